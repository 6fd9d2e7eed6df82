import PyProof.Rows.All
import Wide.All
import OpenK.AllK
import Wide.FinOn
import KE.KStateDown
import Lean
import HandS.ForMost
import HandS.Exc
import HandS.WordsExc
import HandS.Flow
import HandS.Style
import HandS.IsInst
import HandS.Defaults
import HandS.Conv
import HandS.Evl
import HandS.Steps
import HandS.Head0
import HandS.Head1
import HandS.Head2
import HandS.HeadEnd
import HandS.HeadHook1
import HandS.HeadHook2
import PyProof.ReprRoads
import HandS.MakeKwOnly
import HandS.Codes
import HandS.Property
import HandS.HeadHook3
import HandS.HeadHook4
import HandS.Text
import HandS.Iter
import HandS.DictComp
import HandS.More
import HandS.WordsDict
import KE.KDictZip
import HandS.Zip0
import HandS.Star
import KE.SortData
import HandS.Flt
import PyProof.ReprLen
import HandS.ListItems
import HandS.Finally
import HandS.SortInts
import KE.GoesEnum
import HandS.TupAny
import PySem.Challenge.RW_wholepaid_k31_promises_kept_or_broken
set_option Elab.async false
set_option linter.all false
set_option maxRecDepth 100000
set_option maxHeartbeats 4000000
/-! The layer of this repo over the hand layer: defs called by their names, repr of data, the draws. -/
namespace Wp
open PySem PySem.Spec PyProof.Rows L2

/-- a def of the top as it stands -/
abbrev FnP (K : PySem.W.Frag) (x : Str) (st : Stmt) (f : Addr) (fd : FuncData) : Prop :=
  FunD K x x (defArgs st) (defBody st) (defScope st) [] [] f fd

/-- a def of the top that is called by its name -/
structure Dn (P : Program) (w : World) (K : PySem.W.Frag) (mg : Str → Option Value) (base : Heap)
    (CX : CXT) (k : Nat) (x : Str) (ps : List Str) (sp : Sp) : Prop where
  ex : ∃ fd, FnOk P w K mg base CX k (He.ga K x) fd ps sp ∧ Binds K fd ps []
  gm : mg x = some (.ref (He.ga K x))
  kp : PySem.W.keepIn K (.ref (He.ga K x)) = true

def tFn (sp : Sp) (E : XK) (t : TA) : TE := fun σ H Q => t σ H fun vs H1 => sp vs H1 Q E

section
variable {X : Cx}
theorem pe_fn {CX : CXT} {k : Nat} {x : Str} {ps : List Str} {sp : Sp} {E : XK} {e : Expr} {es : List Expr}
    {t : TA} {p pos : Pos} (D : Dn X.prog X.w X.K X.mg X.base CX k x ps sp) (hr : Room k X.A)
    (hx : Passes CX X E) (ha : PA X (e :: es) t) (hg : Gl X x := by rfl)
    (hdb : (x == ("__debug__" : Str)) = false := by decide)
    (he : starEach (e :: es) X.env = (false, eval e X.env) :: starEach es X.env := by rfl)
    (hpl : (backTo pos (starEach es X.env)).any (·.1) = false := by rfl) :
    PE X (.Call (.Name x p) (e :: es) [] pos) (tFn sp E t) := by
  obtain ⟨fd, F, b⟩ := D.ex
  refine ⟨fun pins s σ H Q I h => ?_⟩
  have q := pe_call (CX := CX) (E := E) (dvs := []) (p := p) (pos := pos) F hr hg D.gm D.kp b .nil hx ha hdb he hpl
  refine q.run pins s σ H Q I ?_
  have e2 : (fun vs H1 => sp (vs ++ []) H1 Q E) = fun vs H1 => sp vs H1 Q E := by
    funext vs H1
    rw [List.append_nil]
  show t σ H (fun vs H1 => sp (vs ++ []) H1 Q E)
  rw [e2]
  exact h
end
end Wp
set_option Elab.async false
set_option linter.all false
set_option maxRecDepth 100000
set_option maxHeartbeats 4000000
namespace Wp
open PySem PySem.Spec PyProof.Rows L2
def topS (i : Nat) : Stmt := PySem.Challenge.pw_wholepaid_k31_promises_kept_or_broken.main.body.getD i (.Pass ⟨0, 0, 0, 0⟩)
end Wp
set_option Elab.async false
set_option linter.all false
set_option maxRecDepth 100000
set_option maxHeartbeats 4000000
/-! Readings, step by step: one lemma for each head. -/
namespace Wp
open PySem PySem.Spec PyProof.Rows L2

theorem sz5 {n : Nat} (h : n ≤ 1000000) : n ≤ sizeLine := Nat.le_trans h (by decide)
theorem sz6 {n : Nat} (h : n < 1000000) : n < sizeLine := Nat.lt_of_lt_of_le h (by decide)
/-- all but the object at a is as it was -/
def But (a : Addr) (H H' : Hp) : Prop := ∀ b o, H b = some o → b ≠ a → H' b = some o
theorem Same.new {H : Hp} {p : Addr} {o : HO} (h : H p = none) : Same H (upd H p o) := fun b u e => by
  rw [upd_ne (ne_of_none e h)]
  exact e
theorem But.upd {H : Hp} {p : Addr} {o : HO} : But p H (upd H p o) := fun b u e n => by
  rw [upd_ne n]
  exact e
theorem But.same {H H1 H2 : Hp} {p : Addr} (a : But p H H1) (b : Same H1 H2) : But p H H2 := fun c o e n => b c o (a c o e n)
theorem Same.but {H H1 H2 : Hp} {p : Addr} (a : Same H H1) (b : But p H1 H2) : But p H H2 := fun c o e n => b c o (a c o e) n
/-- what is new may change -/
theorem Same.mut {H H1 H2 : Hp} {p : Addr} (a : Same H H1) (b : But p H1 H2) (n : H p = none) : Same H H2 := fun c o e => b c o (a c o e) (ne_of_none e n)

section
variable {t u : TS} {D : Ends} {σ : L2.St} {H : Hp} {te ta tb tc : TE} {ca cb : TT} {tr : TA} {g : TG} {gs : TGs} {Q : VK} {QB : Bool → Hp → Prop} {QA : List V → Hp → Prop} {QS : L2.St → Hp → Prop} {v x y : V} {i j : Int} {n : Nat} {b : Bool} {K : PySem.W.Frag}
/-! statements -/
theorem r_seq (h : t { D with nx := u D } σ H) : tSeq t u D σ H := h
theorem r_next (h : D.nx σ H) : tNext D σ H := h
theorem r_if {c : TT} (h : c σ H fun b H1 => if b = true then t D σ H1 else u D σ H1) : tIfS c t u D σ H := h
theorem r_asg (h : te σ H fun x H1 => g x σ H1 D.nx) : tAsg te g D σ H := h
theorem r_gname (h : QS (σ.set n (some v)) H) : gName n v σ H QS := h
theorem r_ret (h : te σ H D.rt) : tRet te D σ H := h
theorem r_retN (h : D.rt .non H) : tRetN D σ H := h
theorem r_drop (h : te σ H fun _ H1 => D.nx σ H1) : tDrop te D σ H := h
def kPar (m n : Nat) (D : Ends) (σ : L2.St) : List V → Hp → Prop := fun vs H1 => ∃ v w, vs = [v, w] ∧ D.nx ((σ.set m (some v)).set n (some w)) H1
theorem r_par {m : Nat} (h : tr σ H (kPar m n D σ)) : tPar m n tr D σ H := h
theorem r_kPar {m : Nat} (h : D.nx ((σ.set m (some x)).set n (some y)) H) : kPar m n D σ [x, y] H := ⟨x, y, rfl, h⟩
theorem r_gtup {a : Addr} {xs : List V} (h : SqT K H a xs) (l : xs.length = n) (q : gs xs σ H QS) : gTup K n gs (.ref a) σ H QS := ⟨a, xs, rfl, h, l, q⟩
theorem r_gnil (q : QS σ H) : gNil [] σ H QS := ⟨rfl, q⟩
theorem r_gcons {r : List V} (q : g v σ H fun σ' H' => gs r σ' H' QS) : gCons g gs (v :: r) σ H QS := ⟨v, r, rfl, q⟩
/-! names, constants, arguments -/
theorem r_var (h : σ[n]? = some (some v)) (q : Q v H) : tVar n σ H Q := ⟨v, h, q⟩
theorem r_c (q : Q v H) : tC v σ H Q := q
theorem r_nil (q : QA [] H) : tNil σ H QA := q
theorem r_cons (q : te σ H fun x H1 => tr σ H1 fun xs H2 => QA (x :: xs) H2) : tCons te tr σ H QA := q
theorem r_fn {sp : Sp} {E : XK} (q : tr σ H fun vs H1 => sp vs H1 Q E) : tFn sp E tr σ H Q := q
theorem r_cb {r : List V → Hp → VK → Prop} (q : tr σ H fun vs H1 => r vs H1 Q) : tCB r tr σ H Q := q
/-! operators -/
theorem r_op {r : R2} (q : ta σ H fun x H1 => tb σ H1 fun y H2 => r x y H2 Q) : tOp r ta tb σ H Q := q
theorem r_un {r : V → Hp → VK → Prop} (q : ta σ H fun x H1 => r x H1 Q) : tUn r ta σ H Q := q
theorem r_I0 {f : Int → Int → V} (q : Q (f i j) H) : rI0 f (.int i) (.int j) H Q := ⟨i, j, rfl, rfl, q⟩
theorem r_I {C : Int → Int → Prop} {f : Int → Int → V} (c : C i j) (q : Q (f i j) H) : rI C f (.int i) (.int j) H Q := ⟨i, j, rfl, rfl, c, q⟩
theorem r_U {f : Int → V} (q : Q (f i) H) : rU f (.int i) H Q := ⟨i, rfl, q⟩
theorem decI {i j : Int} : decide (V.int i = V.int j) = decide (i = j) := by
  by_cases h : i = j
  · rw [h]; simp
  · rw [decide_eq_false h, decide_eq_false fun z => h (V.int.inj z)]
theorem decS {i j : Str} : decide (V.str i = V.str j) = decide (i = j) := by
  by_cases h : i = j
  · rw [h]; simp
  · rw [decide_eq_false h, decide_eq_false fun z => h (V.str.inj z)]
theorem decB {i j : Bool} : decide (V.bl i = V.bl j) = decide (i = j) := by
  by_cases h : i = j
  · rw [h]; simp
  · rw [decide_eq_false h, decide_eq_false fun z => h (V.bl.inj z)]
theorem r_eqI (q : Q (.bl (decide (i = j))) H) : rEq (.int i) (.int j) H Q := ⟨rfl, by rw [decI]; exact q⟩
theorem r_neI (q : Q (.bl (!decide (i = j))) H) : rNe (.int i) (.int j) H Q := ⟨rfl, by rw [decI]; exact q⟩
theorem r_eqS {a c : Str} (q : Q (.bl (decide (a = c))) H) : rEq (.str a) (.str c) H Q := ⟨rfl, by rw [decS]; exact q⟩
theorem r_neS {a c : Str} (q : Q (.bl (!decide (a = c))) H) : rNe (.str a) (.str c) H Q := ⟨rfl, by rw [decS]; exact q⟩
theorem r_eqB {a c : Bool} (q : Q (.bl (decide (a = c))) H) : rEq (.bl a) (.bl c) H Q := ⟨rfl, by rw [decB]; exact q⟩
theorem r_neB {a c : Bool} (q : Q (.bl (!decide (a = c))) H) : rNe (.bl a) (.bl c) H Q := ⟨rfl, by rw [decB]; exact q⟩
def kChain (r' : R2) (tc : TE) (σ : L2.St) (y : V) (Q : VK) : VK := fun z H3 => ∃ k, z = .bl k ∧ (if k = true then tc σ H3 fun w' H4 => r' y w' H4 Q else Q (.bl false) H3)
theorem r_chain {r r' : R2} (q : ta σ H fun x H1 => tb σ H1 fun y H2 => r x y H2 (kChain r' tc σ y Q)) : tChain r r' ta tb tc σ H Q := q
theorem r_kChain {r' : R2} (q1 : b = true → tc σ H fun w' H4 => r' y w' H4 Q) (q2 : b = false → Q (.bl false) H) : kChain r' tc σ y Q (.bl b) H := by
  refine ⟨b, rfl, ?_⟩
  cases b with
  | true => exact iteT (q1 rfl)
  | false => exact iteF (q2 rfl)
/-! tests -/
def kTest (Q : Bool → Hp → Prop) : VK := fun x H' => ∃ k, x = .bl k ∧ Q k H'
theorem r_test (q : te σ H (kTest QB)) : tTest te σ H QB := q
theorem r_tB (q : te σ H (kTest QB)) : tB te σ H QB := q
theorem r_kTest (q : QB b H) : kTest QB (.bl b) H := ⟨b, rfl, q⟩
theorem r_not (q : ca σ H fun c H1 => QB (!c) H1) : tNot ca σ H QB := q
theorem r_and (q : ca σ H fun c H1 => if c = true then cb σ H1 QB else QB false H1) : tAnd ca cb σ H QB := q
theorem r_or (q : ca σ H fun c H1 => if c = true then QB true H1 else cb σ H1 QB) : tOr ca cb σ H QB := q
theorem r_tif (q : ca σ H fun c H1 => if c = true then ta σ H1 Q else tb σ H1 Q) : tIf ca ta tb σ H Q := q
def kAndV (tb : TE) (σ : L2.St) (Q : VK) : VK := fun x H1 => ∃ c, x = .bl c ∧ if c = true then tb σ H1 Q else Q (.bl false) H1
def kOrV (tb : TE) (σ : L2.St) (Q : VK) : VK := fun x H1 => ∃ c, x = .bl c ∧ if c = true then Q (.bl true) H1 else tb σ H1 Q
def kNotV (Q : VK) : VK := fun x H1 => ∃ c, x = .bl c ∧ Q (.bl (!c)) H1
theorem r_andV (q : ta σ H (kAndV tb σ Q)) : tAndV ta tb σ H Q := q
theorem r_orV (q : ta σ H (kOrV tb σ Q)) : tOrV ta tb σ H Q := q
theorem r_notV (q : ta σ H (kNotV Q)) : tNotV ta σ H Q := q
theorem r_kAndV (q : if b = true then tb σ H Q else Q (.bl false) H) : kAndV tb σ Q (.bl b) H := ⟨b, rfl, q⟩
theorem r_kOrV (q : if b = true then Q (.bl true) H else tb σ H Q) : kOrV tb σ Q (.bl b) H := ⟨b, rfl, q⟩
theorem r_kNotV (q : Q (.bl (!b)) H) : kNotV Q (.bl b) H := ⟨b, rfl, q⟩
end
/-! ways -/
section
variable {A B : Prop} {p : Prop} {ip : Decidable p} {b : Bool}
theorem w_T (h : A) : if true = true then A else B := iteT h
theorem w_F (h : B) : if false = true then A else B := iteF h
theorem w_NT (h : B) : if (!true) = true then A else B := iteF h
theorem w_NF (h : A) : if (!false) = true then A else B := iteT h
theorem w_dec (h1 : p → A) (h2 : ¬ p → B) : if decide p = true then A else B := by
  by_cases h : p
  · rw [decide_eq_true h]; exact iteT (h1 h)
  · rw [decide_eq_false h]; exact iteF (h2 h)
theorem w_ndec (h1 : ¬ p → A) (h2 : p → B) : if (!decide p) = true then A else B := by
  by_cases h : p
  · rw [decide_eq_true h]; exact iteF (h2 h)
  · rw [decide_eq_false h]; exact iteT (h1 h)
theorem w_b (h1 : b = true → A) (h2 : b = false → B) : if b = true then A else B := by
  cases b with
  | true => exact iteT (h1 rfl)
  | false => exact iteF (h2 rfl)
theorem w_nb (h1 : b = false → A) (h2 : b = true → B) : if (!b) = true then A else B := by
  cases b with
  | true => exact iteF (h2 rfl)
  | false => exact iteT (h1 rfl)
theorem w_yes (h : b = true) (q : A) : if b = true then A else B := by rw [h]; exact iteT q
theorem w_no (h : b = false) (q : B) : if b = true then A else B := by rw [h]; exact iteF q
end
/-! objects -/
section
variable {t u : TS} {D : Ends} {σ : L2.St} {H : Hp} {te ta tb tc td ty tv : TE} {tr : TA} {Q : VK} {QA : List V → Hp → Prop} {v x y : V} {i j : Int} {n : Nat} {b : Bool} {K : PySem.W.Frag} {a C dx p : Addr} {fs : List (Str × V)} {f : Str} {xs ys : List V} {kvs : List (Key × V)} {k : Key}
theorem r_pow5 (q : Q (.int 100000) H) : rI CPow (fun i j => .int (i ^ j.toNat)) (.int 10) (.int 5) H Q := ⟨10, 5, rfl, rfl, ⟨by decide, by decide, by decide⟩, q⟩
theorem r_pow6 (q : Q (.int 1000000) H) : rI CPow (fun i j => .int (i ^ j.toNat)) (.int 10) (.int 6) H Q := ⟨10, 6, rfl, rfl, ⟨by decide, by decide, by decide⟩, q⟩
theorem r_pow7 (q : Q (.int 10000000) H) : rI CPow (fun i j => .int (i ^ j.toNat)) (.int 10) (.int 7) H Q := ⟨10, 7, rfl, rfl, ⟨by decide, by decide, by decide⟩, q⟩
theorem r_pow9 (q : Q (.int 1000000000) H) : rI CPow (fun i j => .int (i ^ j.toNat)) (.int 10) (.int 9) H Q := ⟨10, 9, rfl, rfl, ⟨by decide, by decide, by decide⟩, q⟩
theorem r_pow18 (q : Q (.int 1000000000000000000) H) : rI CPow (fun i j => .int (i ^ j.toNat)) (.int 10) (.int 18) H Q := ⟨10, 18, rfl, rfl, ⟨by decide, by decide, by decide⟩, q⟩
theorem r_pow20 (q : Q (.int 100000000000000000000) H) : rI CPow (fun i j => .int (i ^ j.toNat)) (.int 10) (.int 20) H Q := ⟨10, 20, rfl, rfl, ⟨by decide, by decide, by decide⟩, q⟩
theorem r_pow30 (q : Q (.int 1000000000000000000000000000000) H) : rI CPow (fun i j => .int (i ^ j.toNat)) (.int 10) (.int 30) H Q := ⟨10, 30, rfl, rfl, ⟨by decide, by decide, by decide⟩, q⟩
theorem r_isN_non (q : Q (.bl true) H) : rIsN .non .non H Q := ⟨rfl, q⟩
theorem r_isN_ref (q : Q (.bl false) H) : rIsN (.ref a) .non H Q := ⟨rfl, q⟩
theorem r_isN_int (q : Q (.bl false) H) : rIsN (.int i) .non H Q := ⟨rfl, q⟩
theorem r_isN_str {z : Str} (q : Q (.bl false) H) : rIsN (.str z) .non H Q := ⟨rfl, q⟩
theorem r_isN_bl (q : Q (.bl false) H) : rIsN (.bl b) .non H Q := ⟨rfl, q⟩
theorem r_notN_non (q : Q (.bl false) H) : rNotN .non .non H Q := ⟨rfl, q⟩
theorem r_notN_ref (q : Q (.bl true) H) : rNotN (.ref a) .non H Q := ⟨rfl, q⟩
theorem r_notN_int (q : Q (.bl true) H) : rNotN (.int i) .non H Q := ⟨rfl, q⟩
theorem r_notN_str {z : Str} (q : Q (.bl true) H) : rNotN (.str z) .non H Q := ⟨rfl, q⟩
theorem r_notN_bl (q : Q (.bl true) H) : rNotN (.bl b) .non H Q := ⟨rfl, q⟩
def kTup (Q : VK) : List V → Hp → Prop := fun xs H1 => xs.length ≤ sizeLine ∧ ∀ p, H1 p = none → Q (.ref p) (upd H1 p (.tup xs))
def kLst (Q : VK) : List V → Hp → Prop := fun xs H1 => xs.length ≤ sizeLine ∧ ∀ p, H1 p = none → Q (.ref p) (upd H1 p (.lst xs))
theorem r_tup (q : tr σ H (kTup Q)) : tTup tr σ H Q := q
theorem r_lst (q : tr σ H (kLst Q)) : tLst tr σ H Q := q
theorem r_kTup (q : ∀ p H', H p = none → Same H H' → H' p = some (.tup xs) → Q (.ref p) H') (hz : xs.length ≤ 1000000 := by (simp only [List.length_cons, List.length_nil]; decide)) : kTup Q xs H :=
  ⟨sz5 hz, fun p hp => q p _ hp (Same.new hp) upd_same⟩
theorem r_kLst (q : ∀ p H', H p = none → Same H H' → H' p = some (.lst xs) → Q (.ref p) H') (hz : xs.length ≤ 1000000 := by (simp only [List.length_cons, List.length_nil]; decide)) : kLst Q xs H :=
  ⟨sz5 hz, fun p hp => q p _ hp (Same.new hp) upd_same⟩
def kFld (K : PySem.W.Frag) (f : Str) (Q : VK) : VK := fun x H1 => ∃ a C dx fs v, x = .ref a ∧ H1 a = some (.ins C dx fs) ∧ Cls K C ∧ NoAttr K C f ∧ fs.lookup f = some v ∧ Q v H1
theorem r_fld (q : ta σ H (kFld K f Q)) : tFld K ta f σ H Q := q
theorem r_kFld (h1 : H a = some (.ins C dx fs)) (h2 : Cls K C) (h3 : NoAttr K C f) (h4 : fs.lookup f = some v) (q : Q v H) : kFld K f Q (.ref a) H := ⟨a, C, dx, fs, v, rfl, h1, h2, h3, h4, q⟩
def kSFld (K : PySem.W.Frag) (f : Str) (D : Ends) (σ : L2.St) (y : V) : VK := fun x H2 => ∃ a C dx fs, x = .ref a ∧ H2 a = some (.ins C dx fs) ∧ Cls K C ∧ NoAttr K C f ∧ fs.length < 1000 ∧ D.nx σ (upd H2 a (.ins C dx (putF f y fs)))
theorem r_sfld (q : tv σ H fun y H1 => ta σ H1 (kSFld K f D σ y)) : sFld K ta tv f D σ H := q
theorem r_kSFld (h1 : H a = some (.ins C dx fs)) (h2 : Cls K C) (h3 : NoAttr K C f) (hl : fs.length < 1000) (q : ∀ H', But a H H' → H' a = some (.ins C dx (putF f y fs)) → D.nx σ H') : kSFld K f D σ y (.ref a) H :=
  ⟨a, C, dx, fs, rfl, h1, h2, h3, hl, q _ But.upd upd_same⟩
def kDGet (Q : VK) (x : V) : VK := fun y H2 => ∃ a v, x = .ref a ∧ DGet H2 a y (some v) ∧ Q v H2
theorem r_dget (q : td σ H fun x H1 => ty σ H1 (kDGet Q x)) : tDGet td ty σ H Q := q
theorem r_kDGetS {z : Str} (h1 : H a = some (.dK kvs)) (h2 : valV kvs (Sum.inr z) = some v) (q : Q v H) : kDGet Q (.ref a) (.str z) H :=
  ⟨a, v, rfl, .inl ⟨kvs, Sum.inr z, .inl h1, rfl, h2.symm⟩, q⟩
theorem r_kDGetI {z : Int} (h1 : H a = some (.dK kvs)) (h2 : valV kvs (Sum.inl z) = some v) (q : Q v H) : kDGet Q (.ref a) (.int z) H :=
  ⟨a, v, rfl, .inl ⟨kvs, Sum.inl z, .inl h1, rfl, h2.symm⟩, q⟩
def kDPut (D : Ends) (σ : L2.St) (v x : V) : VK := fun y H3 => ∃ a H4, x = .ref a ∧ DPut H3 a y v H4 ∧ D.nx σ H4
theorem r_dput (q : tv σ H fun v H1 => td σ H1 fun x H2 => ty σ H2 (kDPut D σ v x)) : sDPut td ty tv D σ H := q
theorem r_kDPutS {z : Str} (h1 : H a = some (.dK kvs)) (hz : kvs.length < 1000000) (q : ∀ H', But a H H' → H' a = some (.dK (putK kvs (Sum.inr z) v)) → D.nx σ H') : kDPut D σ v (.ref a) (.str z) H :=
  ⟨a, _, rfl, .inl ⟨kvs, Sum.inr z, h1, rfl, sz6 hz, rfl⟩, q _ But.upd upd_same⟩
theorem r_ixL (h : SqL K H p xs) (e : atI xs i = some v) (q : Q v H) : rIxL K (.ref p) (.int i) H Q := ⟨p, xs, i, v, rfl, rfl, h, e, q⟩
theorem r_ixT (h : SqT K H p xs) (e : atI xs i = some v) (q : Q v H) : rIxT K (.ref p) (.int i) H Q := ⟨p, xs, i, v, rfl, rfl, h, e, q⟩
theorem r_ixSL (h : SqL K H p xs) (e : atI xs i = some v) (q : Q v H) : rIx K (.ref p) (.int i) H Q := .inl (r_ixL h e q)
theorem r_ixST (h : SqT K H p xs) (e : atI xs i = some v) (q : Q v H) : rIx K (.ref p) (.int i) H Q := .inr (.inl (r_ixT h e q))
def kBM (K : PySem.W.Frag) (T : String) (r : V → List V → Hp → VK → Prop) (tr : TA) (σ : L2.St) (Q : VK) : VK := fun x H1 => tyV K T x H1 ∧ tr σ H1 fun xs H2 => r x xs H2 Q
theorem r_bm {T : String} {r : V → List V → Hp → VK → Prop} (q : ta σ H (kBM K T r tr σ Q)) : tBM K T r ta tr σ H Q := q
theorem r_kBML {r : V → List V → Hp → VK → Prop} (h : H p = some (.lst xs)) (q : tr σ H fun ys H2 => r (.ref p) ys H2 Q) : kBM K "list" r tr σ Q (.ref p) H := ⟨.inl ⟨rfl, xs, SqL.of h⟩, q⟩
theorem r_append (h : H p = some (.lst xs)) (hz : xs.length < 1000000) (q : ∀ H', But p H H' → H' p = some (.lst (xs ++ [y])) → Q .non H') : rAppend (.ref p) [y] H Q :=
  ⟨p, xs, y, rfl, rfl, h, sz6 hz, q _ But.upd upd_same⟩
/-! built-in calls -/
def rInt1 : List V → Hp → VK → Prop := fun xs H Q => (∃ i, xs = [.int i] ∧ Q (.int i) H) ∨ ∃ k, xs = [.bl k] ∧ Q (.int (if k then 1 else 0)) H
theorem r_int1 (q : Q (.int i) H) : rInt1 [.int i] H Q := .inl ⟨i, rfl, q⟩
theorem r_int1b (q : Q (.int (if b then 1 else 0)) H) : rInt1 [.bl b] H Q := .inr ⟨b, rfl, q⟩
def rLen (K : PySem.W.Frag) : List V → Hp → VK → Prop := fun xs H Q => ∃ x n, xs = [x] ∧ LenV K x H n ∧ Q (.int n) H
theorem r_lenL (h : SqL K H p xs) (q : Q (.int (xs.length : Nat)) H) : rLen K [.ref p] H Q := ⟨_, _, rfl, .inl ⟨xs, h, rfl⟩, q⟩
theorem r_lenT (h : SqT K H p xs) (q : Q (.int (xs.length : Nat)) H) : rLen K [.ref p] H Q := ⟨_, _, rfl, .inr ⟨xs, h, rfl⟩, q⟩
def rMin2 : List V → Hp → VK → Prop := fun xs H Q => ∃ i j, xs = [.int i, .int j] ∧ Q (.int (if j < i then j else i)) H
def rMax2 : List V → Hp → VK → Prop := fun xs H Q => ∃ i j, xs = [.int i, .int j] ∧ Q (.int (if j > i then j else i)) H
theorem min_of (i j : Int) : (if j < i then j else i) = min i j := by
  split <;> omega
theorem max_of (i j : Int) : (if j > i then j else i) = max i j := by
  split <;> omega
theorem r_min2 (q : Q (.int (min i j)) H) : rMin2 [.int i, .int j] H Q := ⟨i, j, rfl, by rw [min_of]; exact q⟩
theorem r_max2 (q : Q (.int (max i j)) H) : rMax2 [.int i, .int j] H Q := ⟨i, j, rfl, by rw [max_of]; exact q⟩
def rListOf (K : PySem.W.Frag) : List V → Hp → VK → Prop := fun xs H Q => ∃ p ys, xs = [.ref p] ∧ (SqL K H p ys ∨ SqT K H p ys) ∧ ∀ l, H l = none → Q (.ref l) (upd H l (.lst ys))
theorem r_listL (h : SqL K H p xs) (q : ∀ l H', H l = none → Same H H' → H' l = some (.lst xs) → Q (.ref l) H') : rListOf K [.ref p] H Q := ⟨p, xs, rfl, .inl h, fun l hl => q l _ hl (Same.new hl) upd_same⟩
theorem r_listT (h : SqT K H p xs) (q : ∀ l H', H l = none → Same H H' → H' l = some (.lst xs) → Q (.ref l) H') : rListOf K [.ref p] H Q := ⟨p, xs, rfl, .inr h, fun l hl => q l _ hl (Same.new hl) upd_same⟩
theorem r_isi {c : V} {t u : Value} (h1 : ClsV c u) (h2 : TyX K H x t) (h3 : PySem.W.kitOne K t u = some b) (q : Q (.bl b) H) : rIsi K [x, c] H Q := ⟨x, c, t, u, b, rfl, h1, h2, h3, q⟩
theorem r_sum {zs : List Int} (h : SqL K H p (zs.map V.int)) (q : Q (.int zs.sum) H) : rSum K [.ref p] H Q := ⟨p, zs, rfl, h, q⟩
end
section
variable {X : Cx}
theorem c_int1 : CallR X (.type "int") rInt1 := call_int1
theorem c_len : CallR X (.builtin "len") (rLen X.K) := call_len
theorem c_min2 (h : X.calm = true) : CallR X (.builtin "min") rMin2 := call_min2 h
theorem c_max2 (h : X.calm = true) : CallR X (.builtin "max") rMax2 := call_max2 h
theorem c_list : CallR X (.type "list") (rListOf X.K) := call_list_of
end
end Wp
set_option Elab.async false
set_option linter.all false
set_option maxRecDepth 100000
set_option maxHeartbeats 4000000
/-! Readings of loops and comprehensions. -/
namespace Wp
open PySem PySem.Spec PyProof.Rows L2
section
variable {t u tw : TS} {D : Ends} {σ : L2.St} {H : Hp} {te ta tb tl : TE} {c tt : TT} {tr : TA} {g : TG} {Q : VK} {QB : Bool → Hp → Prop} {v x y : V} {n : Nat} {b : Bool} {K : PySem.W.Frag} {a : Addr} {xs : List V} {vs : List Nat}
theorem r_cut (Mid : L2.St → Hp → Prop) (h1 : t { D with nx := Mid } σ H) (h2 : ∀ σ' H', Mid σ' H' → u D σ' H') : Evl.tCut t u D σ H := ⟨Mid, h1, h2⟩
/-! for over a list -/
def kForL (K : PySem.W.Frag) (g : TG) (tw : TS) (D : Ends) (σ : L2.St) : VK := fun x H1 => ∃ a, x = .ref a ∧ (∃ xs, SqL K H1 a xs) ∧
  ∃ W : Nat → Nat → L2.St → Hp → Prop, (∃ m, W 0 m σ H1) ∧ ∀ i m σ H, W i m σ H →
  ((Itl K a).stop i H ∧ D.nx σ H) ∨ ((Itl K a).go i H ∧ ∃ N : L2.St → Hp → Prop, (∀ σ' H', N σ' H' → ∃ m', m' < m ∧ W (i + 1) m' σ' H') ∧
    ∀ x H', (Itl K a).yld i H x H' → g x σ H' fun σ2 H2 => tw { D with nx := N, ct := N, bk := D.nx } σ2 H2)
theorem r_forL (h : tl σ H (kForL K g tw D σ)) : tFor (iList K tl) g tw D σ H := h
theorem r_kForL (Pv : Nat → L2.St → Hp → Prop) (hl : SqL K H a xs) (h0 : Pv 0 σ H) (hk : ∀ i σ' H', Pv i σ' H' → SqL K H' a xs)
    (hs : ∀ i x σ' H', xs[i]? = some x → Pv i σ' H' → g x σ' H' fun σ2 H2 => tw { D with nx := Pv (i + 1), ct := Pv (i + 1), bk := D.nx } σ2 H2)
    (hd : ∀ σ' H', Pv xs.length σ' H' → D.nx σ' H') : kForL K g tw D σ (.ref a) H :=
  ⟨a, rfl, ⟨xs, hl⟩, for_list Pv h0 (fun i σ' H' _ p => hk i σ' H' p) hs hd⟩
def kForT (K : PySem.W.Frag) (g : TG) (tw : TS) (D : Ends) (σ : L2.St) : VK := fun x H1 => ∃ a, x = .ref a ∧ (∃ xs, SqT K H1 a xs) ∧
  ∃ W : Nat → Nat → L2.St → Hp → Prop, (∃ m, W 0 m σ H1) ∧ ∀ i m σ H, W i m σ H →
  ((Itt K a).stop i H ∧ D.nx σ H) ∨ ((Itt K a).go i H ∧ ∃ N : L2.St → Hp → Prop, (∀ σ' H', N σ' H' → ∃ m', m' < m ∧ W (i + 1) m' σ' H') ∧
    ∀ x H', (Itt K a).yld i H x H' → g x σ H' fun σ2 H2 => tw { D with nx := N, ct := N, bk := D.nx } σ2 H2)
theorem r_forT (h : tl σ H (kForT K g tw D σ)) : tFor (iTup K tl) g tw D σ H := h
theorem r_kForT (Pv : Nat → L2.St → Hp → Prop) (hl : SqT K H a xs) (h0 : Pv 0 σ H) (hk : ∀ i σ' H', Pv i σ' H' → SqT K H' a xs)
    (hs : ∀ i x σ' H', xs[i]? = some x → Pv i σ' H' → g x σ' H' fun σ2 H2 => tw { D with nx := Pv (i + 1), ct := Pv (i + 1), bk := D.nx } σ2 H2)
    (hd : ∀ σ' H', Pv xs.length σ' H' → D.nx σ' H') : kForT K g tw D σ (.ref a) H :=
  ⟨a, rfl, ⟨xs, hl⟩, for_tup Pv h0 (fun i σ' H' _ p => hk i σ' H' p) hs hd⟩
/-! for over a range -/
def kForR1 (g : TG) (tw : TS) (D : Ends) (σ : L2.St) : List V → Hp → Prop := fun ws H1 => ∃ j : Int, ws = [.int j] ∧ -(2 ^ 62) ≤ j ∧ j < 2 ^ 62 ∧
  ∃ W : Nat → Nat → L2.St → Hp → Prop, (∃ m, W 0 m σ H1) ∧ ∀ i m σ H, W i m σ H →
  ((Itr 0 j.toNat).stop i H ∧ D.nx σ H) ∨ ((Itr 0 j.toNat).go i H ∧ ∃ N : L2.St → Hp → Prop, (∀ σ' H', N σ' H' → ∃ m', m' < m ∧ W (i + 1) m' σ' H') ∧
    ∀ x H', (Itr 0 j.toNat).yld i H x H' → g x σ H' fun σ2 H2 => tw { D with nx := N, ct := N, bk := D.nx } σ2 H2)
theorem r_forR1 (h : tr σ H (kForR1 g tw D σ)) : tFor (iRng1 tr) g tw D σ H := h
theorem r_kForR1 {j : Int} (Pv : Nat → L2.St → Hp → Prop) (hj : -1000000000 ≤ j ∧ j ≤ 1000000000) (h0 : Pv 0 σ H)
    (hs : ∀ (i : Nat) σ' H', (i : Int) < j → Pv i σ' H' → g (.int (i : Int)) σ' H' fun σ2 H2 => tw { D with nx := Pv (i + 1), ct := Pv (i + 1), bk := D.nx } σ2 H2)
    (hd : ∀ σ' H', Pv j.toNat σ' H' → D.nx σ' H') : kForR1 g tw D σ [.int j] H :=
  ⟨j, rfl, by omega, by omega, for_range Pv h0 (fun i σ' H' hi p => by
    have e : (0 : Int) + (i : Int) = (i : Int) := Int.zero_add _
    rw [e]
    exact hs i σ' H' (by omega) p) hd⟩
def kForR2 (g : TG) (tw : TS) (D : Ends) (σ : L2.St) : List V → Hp → Prop := fun ws H1 => ∃ i0 j : Int, ws = [.int i0, .int j] ∧ (-(2 ^ 62) ≤ i0 ∧ i0 < 2 ^ 62 ∧ -(2 ^ 62) ≤ j ∧ j < 2 ^ 62) ∧
  ∃ W : Nat → Nat → L2.St → Hp → Prop, (∃ m, W 0 m σ H1) ∧ ∀ i m σ H, W i m σ H →
  ((Itr i0 (j - i0).toNat).stop i H ∧ D.nx σ H) ∨ ((Itr i0 (j - i0).toNat).go i H ∧ ∃ N : L2.St → Hp → Prop, (∀ σ' H', N σ' H' → ∃ m', m' < m ∧ W (i + 1) m' σ' H') ∧
    ∀ x H', (Itr i0 (j - i0).toNat).yld i H x H' → g x σ H' fun σ2 H2 => tw { D with nx := N, ct := N, bk := D.nx } σ2 H2)
theorem r_forR2 (h : tr σ H (kForR2 g tw D σ)) : tFor (iRng2 tr) g tw D σ H := h
theorem r_kForR2 {lo j : Int} (Pv : Nat → L2.St → Hp → Prop) (hj : -1000000000 ≤ lo ∧ lo ≤ 1000000000 ∧ -1000000000 ≤ j ∧ j ≤ 1000000000) (h0 : Pv 0 σ H)
    (hs : ∀ (i : Nat) σ' H', lo + (i : Int) < j → Pv i σ' H' → g (.int (lo + (i : Int))) σ' H' fun σ2 H2 => tw { D with nx := Pv (i + 1), ct := Pv (i + 1), bk := D.nx } σ2 H2)
    (hd : ∀ σ' H', Pv (j - lo).toNat σ' H' → D.nx σ' H') : kForR2 g tw D σ [.int lo, .int j] H :=
  ⟨lo, j, rfl, ⟨by omega, by omega, by omega, by omega⟩, for_range Pv h0 (fun i σ' H' hi p => hs i σ' H' (by omega) p) hd⟩
/-! while -/
def kWh (W : Nat → L2.St → Hp → Prop) (tw : TS) (D : Ends) (σ : L2.St) (m : Nat) : Bool → Hp → Prop := fun b H1 => if b = true then
  ∃ N : L2.St → Hp → Prop, (∀ σ' H', N σ' H' → ∃ m', m' < m ∧ W m' σ' H') ∧ tw { D with nx := N, ct := N, bk := D.nx } σ H1 else D.nx σ H1
def nWh (W : Nat → L2.St → Hp → Prop) (m : Nat) : L2.St → Hp → Prop := fun σ' H' => ∃ m', m' < m ∧ W m' σ' H'
theorem r_while (W : Nat → L2.St → Hp → Prop) (m : Nat) (h0 : W m σ H) (hs : ∀ m σ' H', W m σ' H' → c σ' H' (kWh W tw D σ' m)) : tWhile c tw D σ H := ⟨W, ⟨m, h0⟩, hs⟩
theorem r_kWh {W : Nat → L2.St → Hp → Prop} {m : Nat} (h1 : b = true → tw { D with nx := nWh W m, ct := nWh W m, bk := D.nx } σ H) (h2 : b = false → D.nx σ H) : kWh W tw D σ m b H := by
  unfold kWh
  cases b with
  | true => exact iteT ⟨nWh W m, fun _ _ z => z, h1 rfl⟩
  | false => exact iteF (h2 rfl)
/-! list comprehensions -/
def kLcE (Da : Addr) (Pv : Addr → Nat → Hp → Prop) (i : Nat) : VK := fun y H4 => ∃ acc, H4 Da = some (.lst acc) ∧ acc.length < sizeLine ∧ Pv Da (i + 1) (upd H4 Da (.lst (acc ++ [y])))
def kLcT (te : TE) (σ2 : L2.St) (Da : Addr) (Pv : Addr → Nat → Hp → Prop) (i : Nat) : Bool → Hp → Prop := fun b H3 => if b = true then te σ2 H3 (kLcE Da Pv i) else Pv Da (i + 1) H3
def kLcG (tt : TT) (te : TE) (vs : List Nat) (σ : L2.St) (Da : Addr) (Pv : Addr → Nat → Hp → Prop) (i : Nat) : L2.St → Hp → Prop := fun σ2 H2 => wipe σ2 vs = wipe σ vs ∧ tt σ2 H2 (kLcT te σ2 Da Pv i)
theorem r_yes (q : QB true H) : tYes σ H QB := q
section
variable {Da : Addr} {Pv : Addr → Nat → Hp → Prop} {i : Nat} {σ2 : L2.St} {acc : List V}
theorem r_kLcG (h : wipe σ2 vs = wipe σ vs) (q : tt σ2 H (kLcT te σ2 Da Pv i)) : kLcG tt te vs σ Da Pv i σ2 H := ⟨h, q⟩
theorem r_kLcT (q : if b = true then te σ2 H (kLcE Da Pv i) else Pv Da (i + 1) H) : kLcT te σ2 Da Pv i b H := q
theorem r_kLcE (h : H Da = some (.lst acc)) (hz : acc.length < 1000000) (q : ∀ H', But Da H H' → H' Da = some (.lst (acc ++ [y])) → Pv Da (i + 1) H') : kLcE Da Pv i y H :=
  ⟨acc, h, sz6 hz, q _ But.upd upd_same⟩
end
def kLcL (K : PySem.W.Frag) (g : TG) (tt : TT) (te : TE) (vs : List Nat) (σ : L2.St) (Q : VK) : VK := fun x H1 => ∃ a, x = .ref a ∧ (∃ xs, SqL K H1 a xs) ∧ ∀ Da, H1 Da = none → ∃ W : Nat → Nat → Hp → Prop, (∃ m, W 0 m (upd H1 Da (.lst []))) ∧ ∀ i m H, W i m H →
  ((Itl K a).stop i H ∧ Q (.ref Da) H) ∨ ((Itl K a).go i H ∧ ∃ Nx : Hp → Prop, (∀ H', Nx H' → ∃ m', m' < m ∧ W (i + 1) m' H') ∧ ∀ x H', (Itl K a).yld i H x H' → g x (wipe σ vs) H' fun σ2 H2 => wipe σ2 vs = wipe σ vs ∧ tt σ2 H2 fun b H3 =>
    if b = true then te σ2 H3 fun y H4 => ∃ acc, H4 Da = some (.lst acc) ∧ acc.length < sizeLine ∧ Nx (upd H4 Da (.lst (acc ++ [y]))) else Nx H3)
theorem r_lcL (q : tl σ H (kLcL K g tt te vs σ Q)) : tLc (iList K tl) g tt te vs σ H Q := q
theorem r_kLcL (Pv : Addr → Nat → Hp → Prop) (hl : SqL K H a xs) (h0 : ∀ Da H', H Da = none → Same H H' → H' Da = some (.lst []) → Pv Da 0 H') (hk : ∀ Da i H', Pv Da i H' → SqL K H' a xs)
    (hs : ∀ Da i x H', H Da = none → xs[i]? = some x → Pv Da i H' → g x (wipe σ vs) H' (kLcG tt te vs σ Da Pv i)) (hd : ∀ Da H', H Da = none → Pv Da xs.length H' → Q (.ref Da) H') : kLcL K g tt te vs σ Q (.ref a) H :=
  ⟨a, rfl, ⟨xs, hl⟩, fun Da hD => lc_list (Pv Da) (h0 Da _ hD (Same.new hD) upd_same) (fun i H' _ p => hk Da i H' p) (fun i x H' hx p => hs Da i x H' hD hx p) (fun H' p => hd Da H' hD p)⟩
def kLcR1 (g : TG) (tt : TT) (te : TE) (vs : List Nat) (σ : L2.St) (Q : VK) : List V → Hp → Prop := fun ws H1 => ∃ j : Int, ws = [.int j] ∧ -(2 ^ 62) ≤ j ∧ j < 2 ^ 62 ∧ ∀ Da, H1 Da = none → ∃ W : Nat → Nat → Hp → Prop, (∃ m, W 0 m (upd H1 Da (.lst []))) ∧ ∀ i m H, W i m H →
  ((Itr 0 j.toNat).stop i H ∧ Q (.ref Da) H) ∨ ((Itr 0 j.toNat).go i H ∧ ∃ Nx : Hp → Prop, (∀ H', Nx H' → ∃ m', m' < m ∧ W (i + 1) m' H') ∧ ∀ x H', (Itr 0 j.toNat).yld i H x H' → g x (wipe σ vs) H' fun σ2 H2 => wipe σ2 vs = wipe σ vs ∧ tt σ2 H2 fun b H3 =>
    if b = true then te σ2 H3 fun y H4 => ∃ acc, H4 Da = some (.lst acc) ∧ acc.length < sizeLine ∧ Nx (upd H4 Da (.lst (acc ++ [y]))) else Nx H3)
theorem r_lcR1 (q : tr σ H (kLcR1 g tt te vs σ Q)) : tLc (iRng1 tr) g tt te vs σ H Q := q
theorem r_kLcR1 {j : Int} (Pv : Addr → Nat → Hp → Prop) (hj : -1000000000 ≤ j ∧ j ≤ 1000000000) (h0 : ∀ Da H', H Da = none → Same H H' → H' Da = some (.lst []) → Pv Da 0 H')
    (hs : ∀ Da (i : Nat) H', H Da = none → (i : Int) < j → Pv Da i H' → g (.int (i : Int)) (wipe σ vs) H' (kLcG tt te vs σ Da Pv i)) (hd : ∀ Da H', H Da = none → Pv Da j.toNat H' → Q (.ref Da) H') : kLcR1 g tt te vs σ Q [.int j] H :=
  ⟨j, rfl, by omega, by omega, fun Da hD => lc_range (Pv Da) (h0 Da _ hD (Same.new hD) upd_same) (fun i H' hi p => by
    have e : (0 : Int) + (i : Int) = (i : Int) := Int.zero_add _
    rw [e]
    exact hs Da i H' hD (by omega) p) (fun H' p => hd Da H' hD p)⟩
end
end Wp
set_option Elab.async false
set_option linter.all false
set_option maxRecDepth 100000
set_option maxHeartbeats 4000000
/-! Data: lists of ints, == of data. -/
namespace Wp
open PySem PySem.Spec PyProof.Rows L2
section
variable {K : PySem.W.Frag} {H H' : Hp} {p q : Addr} {Q : VK} {as bs : List Int} {x y : V} {d e : PyData}
theorem dp_ints : ∀ ns : List Int, DpAll K H (ns.map V.int) (ns.map PyData.int)
  | [] => .nil
  | n :: r => .cons (.int n) (dp_ints r)
theorem lay_ints : ∀ ns : List Int, PyData.canLayAll0 (ns.map PyData.int) = true
  | [] => rfl
  | n :: r => by
    show (PyData.canLay0 (.int n) && PyData.canLayAll0 (r.map PyData.int)) = true
    rw [lay_ints r]
    rfl
theorem dep_ints : ∀ ns : List Int, PyData.depthAll (ns.map PyData.int) = 0
  | [] => rfl
  | n :: r => by
    show max (PyData.depth (.int n)) (PyData.depthAll (r.map PyData.int)) = 0
    rw [dep_ints r]
    rfl
theorem shp_ints (ns : List Int) : SeqAt.shaped (.list (ns.map PyData.int)) = true := by
  show (PyData.canLayAll0 (ns.map PyData.int) && decide (PyData.depthAll (ns.map PyData.int) + 1 ≤ 64)) = true
  rw [lay_ints, dep_ints]
  rfl
theorem eqv_ints : ∀ as bs : List Int, PyData.eqvAll (as.map PyData.int) (bs.map PyData.int) = decide (as = bs)
  | [], [] => by simp [PyData.eqvAll]
  | [], _ :: _ => by simp [PyData.eqvAll]
  | _ :: _, [] => by simp [PyData.eqvAll]
  | a :: r, b :: s => by
    show (PyData.eqv (.int a) (.int b) && PyData.eqvAll (r.map PyData.int) (s.map PyData.int)) = _
    rw [eqv_ints r s]
    show ((a == b) && decide (r = s)) = decide (a :: r = b :: s)
    rw [Bool.eq_iff_iff]
    simp
theorem r_neLI (h1 : SqL K H p (as.map V.int)) (h2 : SqL K H q (bs.map V.int)) (k : Q (.bl (!decide (as = bs))) H) : rNeD K (.ref p) (.ref q) H Q := by
  refine ⟨.list (as.map .int), .list (bs.map .int), .lst h1 (dp_ints as), .lst h2 (dp_ints bs), shp_ints as, shp_ints bs, ?_⟩
  show Q (.bl (!PyData.eqvAll (as.map PyData.int) (bs.map PyData.int))) H
  rw [eqv_ints]
  exact k
theorem r_eqLI (h1 : SqL K H p (as.map V.int)) (h2 : SqL K H q (bs.map V.int)) (k : Q (.bl (decide (as = bs))) H) : rEqD K (.ref p) (.ref q) H Q := by
  refine ⟨.list (as.map .int), .list (bs.map .int), .lst h1 (dp_ints as), .lst h2 (dp_ints bs), shp_ints as, shp_ints bs, ?_⟩
  show Q (.bl (PyData.eqvAll (as.map PyData.int) (bs.map PyData.int))) H
  rw [eqv_ints]
  exact k
mutual
theorem Dp.mono (e : Same H H') : ∀ {d : PyData} {v : V}, Dp K H v d → Dp K H' v d
  | _, _, .non => .non
  | _, _, .bl b => .bl b
  | _, _, .int i => .int i
  | _, _, .str x => .str x
  | _, _, .lst h r => .lst (e.seq h) (DpAll.mono e r)
  | _, _, .tup h r => .tup (Evl.ex_t e h) (DpAll.mono e r)
theorem DpAll.mono (e : Same H H') : ∀ {ds : List PyData} {vs : List V}, DpAll K H vs ds → DpAll K H' vs ds
  | _, _, .nil => .nil
  | _, _, .cons a r => .cons (Dp.mono e a) (DpAll.mono e r)
end
theorem r_popAt0 {l : Addr} {z : V} {zs : List V} (h : H l = some (.lst (z :: zs))) (k : ∀ H', But l H H' → H' l = some (.lst zs) → Q z H') : rPopAt (.ref l) [.int 0] H Q :=
  ⟨l, z :: zs, 0, 0, z, rfl, rfl, h, by decide, by decide, by simp [seqIndex?], rfl, k _ But.upd upd_same⟩
theorem at_get {α : Type} {xs : List α} {i : Int} {n : Nat} {v : α} (h0 : i = (n : Int)) (h : xs[n]? = some v) : atI xs i = some v := by
  rw [h0]
  exact atI_nat h
theorem at_last {α : Type} (xs : List α) (z : α) : atI (xs ++ [z]) (-1) = some z := by
  unfold atI ixN
  rw [if_neg (by decide)]
  have h : -(((xs ++ [z]).length : Nat) : Int) ≤ -1 := by
    rw [List.length_append]
    show -(((xs.length + 1 : Nat)) : Int) ≤ -1
    omega
  rw [if_pos h]
  have e : ((-1 : Int) + (((xs ++ [z]).length : Nat) : Int)).toNat = xs.length := by
    rw [List.length_append]
    show ((-1 : Int) + ((xs.length + 1 : Nat) : Int)).toNat = xs.length
    omega
  show ((some ((-1 : Int) + (((xs ++ [z]).length : Nat) : Int)).toNat).bind fun j => (xs ++ [z])[j]?) = some z
  rw [e]
  simp
theorem take_more {α : Type} {xs : List α} {i : Nat} {x : α} (h : xs[i]? = some x) : xs.take (i + 1) = xs.take i ++ [x] := by
  rw [List.take_succ, h]
  rfl
theorem r_eqD_eq (h1 : Dp K H x d) (h2 : Dp K H y d) (hs : SeqAt.shaped d = true) (k : Q (.bl true) H) : rEqD K x y H Q := by
  refine ⟨d, d, h1, h2, hs, hs, ?_⟩
  rw [SeqAt.eqv_refl d (SeqAt.canLay_of_shaped hs)]
  exact k
theorem r_neD_eq (h1 : Dp K H x d) (h2 : Dp K H y d) (hs : SeqAt.shaped d = true) (k : Q (.bl false) H) : rNeD K x y H Q := by
  refine ⟨d, d, h1, h2, hs, hs, ?_⟩
  rw [SeqAt.eqv_refl d (SeqAt.canLay_of_shaped hs)]
  exact k
theorem r_cat {l b : Addr} {xs ys : List V} (h1 : H l = some (.lst xs)) (h2 : H b = some (.lst ys)) (hz : xs.length + ys.length ≤ 1000000) (k : ∀ p H', H p = none → Same H H' → H' p = some (.lst (xs ++ ys)) → Q (.ref p) H') : rCat (.ref l) (.ref b) H Q :=
  ⟨l, b, xs, ys, rfl, rfl, h1, h2, sz5 hz, fun p hp => k p _ hp (Same.new hp) upd_same⟩
/-! displays of dicts -/
theorem mergeK_app : ∀ (more kvs : List (Key × V)), ((kvs ++ more).map (·.1)).Nodup → mergeK kvs more = kvs ++ more
  | [], kvs, _ => by
    rw [List.append_nil]
    rfl
  | (k, v) :: r, kvs, h => by
    have hn : valV kvs k = none := by
      cases e : valV kvs k with
      | none => rfl
      | some u =>
        have hm := valV_in e
        rw [List.map_append] at h
        exact absurd rfl ((List.nodup_append.mp h).2.2 k hm k (by simp))
    show mergeK (putK kvs k v) r = _
    rw [putK_new v hn]
    have e : (kvs ++ [(k, v)]) ++ r = kvs ++ (k, v) :: r := by simp
    rw [mergeK_app r (kvs ++ [(k, v)]) (by rw [e]; exact h), e]
theorem mergeK_nil {kvs : List (Key × V)} (h : (kvs.map (·.1)).Nodup) : mergeK [] kvs = kvs := mergeK_app kvs [] h
def kDisp (p : Addr) (Q : VK) : List (V × V) → Hp → Prop := fun ps H2 => H2 p = some (.dK []) ∧ ∃ kvs : List (Key × V), ps = kvs.map (fun kv => (kV kv.1, kv.2)) ∧ kvs.length ≤ 15 ∧ Q (.ref p) (upd H2 p (.dK (mergeK [] kvs)))
section
variable {σ : L2.St} {tk tv : TE} {trs : List (TE × TE)} {QP : List (V × V) → Hp → Prop} {kvs : List (Key × V)} {ps : List (V × V)}
theorem r_disp (q : ∀ p H', H p = none → Same H H' → H' p = some (.dK []) → tPairs trs σ H' (kDisp p Q)) : tDisp trs σ H Q := fun p hp => q p _ hp (Same.new hp) upd_same
theorem r_pnil (q : QP [] H) : tPairs [] σ H QP := q
theorem r_pcons (q : tk σ H fun x H1 => tv σ H1 fun y H2 => tPairs trs σ H2 fun ps H3 => QP ((x, y) :: ps) H3) : tPairs ((tk, tv) :: trs) σ H QP := q
theorem r_kDisp (kvs : List (Key × V)) (h : H p = some (.dK [])) (e : ps = kvs.map (fun kv => (kV kv.1, kv.2))) (hl : kvs.length ≤ 15) (hn : (kvs.map (·.1)).Nodup) (q : ∀ H', But p H H' → H' p = some (.dK kvs) → Q (.ref p) H') : kDisp p Q ps H :=
  ⟨h, kvs, e, hl, q _ But.upd (by rw [mergeK_nil hn]; exact upd_same)⟩
end
end
end Wp
set_option Elab.async false
set_option linter.all false
set_option maxRecDepth 100000
set_option maxHeartbeats 4000000
/-! Defs that call repr: they run where no repr is under way (the guards are known). repr of data. list(range(a, b, c)). -/
namespace Wp
open PySem PySem.Spec PyProof.Rows L2
/-- the promise of a def wherever no repr runs around it -/
structure FnG (P : Program) (w : World) (K : PySem.W.Frag) (mg : Str → Option Value) (base : Heap) (CX : CXT)
    (k : Nat) (f : Addr) (fd : FuncData) (ps : List Str) (sp : Sp) : Prop where
  len : ∀ vs H Q E, sp vs H Q E → vs.length = ps.length
  run : ∀ (A : Around) (outer : List Env) (s : Shared) (H : Hp) (args : Args) (us : List Value) (vs : List V) (Q : VK) (E : XK),
    Room k A → A.guards = some [] → Env0 P w K mg base A outer s H → BindsTo s fd args (ps.zip us) → Vals vs us → sp vs H Q E →
    codeAny (model P w) A (.call (.ref f) args) (CR CX outer P w H s Q E) s
section
variable {P : Program} {w : World} {K : PySem.W.Frag} {mg : Str → Option Value} {base : Heap}
theorem FnG.of {CX : CXT} {k : Nat} {f : Addr} {fd : FuncData} {ps : List Str} {sp : Sp} (F : FnOk P w K mg base CX k f fd ps sp) : FnG P w K mg base CX k f fd ps sp :=
  ⟨F.len, fun A outer s H args us vs Q E hr _ => F.run A outer s H args us vs Q E hr⟩
/-- where a def's body ends -/
theorem ends_ok {CX : CXT} {N : List Str} {qual : Str} {scope : Scope} {f : Addr} {cdv : Value} {A : Around} {outer : List Env} {s : Shared} {H : Hp} {Q : VK} {E : XK} {fl : Flow} {s' : Shared}
    (h : SP (cxOf CX P w K mg base N qual scope f cdv A outer s H E) [] { nx := fun _ H' => Q .non H', rt := Q } fl s') :
    match fl with | .ret u => CE outer P w H s Q u s' | .next => CE outer P w H s Q .none s' | _ => False := by
  cases fl with
  | ret u =>
    obtain ⟨v, τ, H2, J, rv, q⟩ := h
    exact ⟨v, H2, J.os, J.bare, J.base, J.hok, rv, q⟩
  | next =>
    obtain ⟨τ, H2, J, q⟩ := h
    exact ⟨V.non, H2, J.os, J.bare, J.base, J.hok, rfl, q⟩
  | brk =>
    obtain ⟨_, _, _, q⟩ := h
    exact q
  | cont =>
    obtain ⟨_, _, _, q⟩ := h
    exact q
end
section
variable {P : Program} {w : World} {K : PySem.W.Frag} {mg : Str → Option Value} {base : Heap} {x qual : Str} {params : Arguments} {body : List Stmt} {scope : Scope} {dvs : List V} {kws : List (Str × V)} {f : Addr} {fd : FuncData}
theorem _root_.L2.FunD.okG {CX : CXT} {N ps : List Str} {k : Nat} {sp : Sp} (F : FunD K x qual params body scope dvs kws f fd) (S : FnScope N ps scope)
    (len : ∀ vs H Q E, sp vs H Q E → vs.length = ps.length)
    (hbody : ∀ (cdv : Value) (A : Around) (outer : List Env) (s : Shared) (H : Hp) (vs : List V) (Q : VK) (E : XK),
      Room k (A.deeper (envOfC qual scope s.heap.objs.size f cdv)) → (A.deeper (envOfC qual scope s.heap.objs.size f cdv)).guards = some [] → sp vs H Q E →
      ∃ t, PSs (cxOf CX P w K mg base N qual scope f cdv A outer s H E) body t ∧ t { nx := fun _ H' => Q .non H', rt := Q } (L2.start N vs) H) :
    FnG P w K mg base CX (k + 1) f fd ps sp := by
  obtain ⟨oc, od, dV, kV, doc, pm, an, cdv, ct, osl, rfl, lk, hcd, _, _⟩ := F.ex
  refine ⟨len, ?_⟩
  intro A outer s H args us vs Q E hr hg e0 hb r hsp
  have inK : K.In s.heap := e0.mod.kin.keeps fun a ob q => (e0.bs a ob q).1
  have noLim : s.heap.NoLimit := e0.mod.nolimit.keeps fun a ob q => (e0.bs a ob q).1
  refine codeAny_call_function hr.depth (inK _ _ lk) rfl S.co S.gen rfl (PySem.W.codeRec_of inK hcd) (hb _ _ _ _ ?_)
  refine wpAny_newFunctionEnv_cells S.kind (fun y hy => ?_) fun env he s1 inC => ?_
  · rcases S.par y.1 (List.of_mem_zip hy).1 with z | z
    · exact Or.inl z
    · exact Or.inr ⟨z, PySem.W.cellsFrom_some _ _ _ (Or.inl z)⟩
  · subst he
    obtain ⟨t, ht, hq⟩ := hbody cdv A outer s H vs Q E (hr.deeper _) hg hsp
    refine ⟨noLim.keeps inC.toInCall.keep, codeAny_func ?_⟩
    refine wpAny_mono (ht.run [] s1 _ H _ (inv_start S hr.hd e0 (len _ _ _ _ hsp) r inC) hq) (fun fl s2 hs => ?_) fun _ _ z => z
    have z := ends_ok hs
    cases fl <;> first | exact z | exact z.elim
end
/-- a guarded def of the top, called by its name -/
structure Dg (P : Program) (w : World) (K : PySem.W.Frag) (mg : Str → Option Value) (base : Heap)
    (CX : CXT) (k : Nat) (x : Str) (ps : List Str) (sp : Sp) : Prop where
  ex : ∃ fd, FnG P w K mg base CX k (He.ga K x) fd ps sp ∧ Binds K fd ps []
  gm : mg x = some (.ref (He.ga K x))
  kp : PySem.W.keepIn K (.ref (He.ga K x)) = true
section
variable {X : Cx}
theorem run_fnG {CX : CXT} {k : Nat} {f : Addr} {fd : FuncData} {ps : List Str} {sp : Sp} {E : XK} {pins : List (Addr × Obj)} {σ : L2.St} {H : Hp} {s : Shared} {Q : VK} {us : List Value} {vs : List V}
    (F : FnG X.prog X.w X.K X.mg X.base CX k f fd ps sp) (hr : Room k X.A) (hG : X.A.guards = some []) (hb : Binds X.K fd ps []) (hx : Passes CX X E)
    (I : Inv X pins σ H s) (r : Vals vs us) (h : sp vs H Q E) : wpAny (model X.prog X.w) X.A (call (.ref f) us) (EP X pins σ Q) X.xe s := by
  have hl : us.length = ps.length := r.length.symm.trans (F.len _ _ _ _ h)
  have hb2 := hb s us I.kIn (by rw [List.append_nil]; exact hl)
  rw [List.append_nil] at hb2
  refine wpAny_call (codeAny_mono (F.run X.A X.stack s H ⟨us, []⟩ us vs Q E hr hG I.env0 hb2 r h) fun res s2 hq => ?_)
  cases res with
  | error e => exact hx pins σ H s e s2 I hq
  | ok fl =>
    cases fl with
    | ret u => exact I.after hq
    | next => exact hq.elim
    | brk => exact hq.elim
    | cont => exact hq.elim
theorem pe_fnG {CX : CXT} {k : Nat} {x : Str} {ps : List Str} {sp : Sp} {E : XK} {e : Expr} {es : List Expr}
    {t : TA} {p pos : Pos} (D : Dg X.prog X.w X.K X.mg X.base CX k x ps sp) (hr : Room k X.A) (hG : X.A.guards = some [])
    (hx : Passes CX X E) (ha : PA X (e :: es) t) (hg : Gl X x := by rfl)
    (hdb : (x == ("__debug__" : Str)) = false := by decide)
    (he : starEach (e :: es) X.env = (false, eval e X.env) :: starEach es X.env := by rfl)
    (hpl : (backTo pos (starEach es X.env)).any (·.1) = false := by rfl) :
    PE X (.Call (.Name x p) (e :: es) [] pos) (tFn sp E t) := by
  obtain ⟨fd, F, b⟩ := D.ex
  refine ⟨fun pins s σ H Q I h => wpAny_Call_Name_kw (ld_glob I hg D.gm ?_ hdb)⟩
  refine PySem.W.callWith_K (h₀ := X.base) I.ok.mod.kin D.kp (thn (ha.run pos pins s σ H _ I h) ?_) he hpl
  rintro us s1 ⟨vs, H1, I1, r, q⟩
  exact ⟨I1.kIn, run_fnG F hr hG b hx I1 r q⟩
end
/-! ### repr of data -/
def rRepr (K : PySem.W.Frag) : List V → Hp → VK → Prop := fun xs H Q => ∃ (v : V) (d : PyData), xs = [v] ∧ Dp K H v d ∧ d.showable = true ∧ d.depth ≤ 60 ∧ d.shown.length ≤ sizeLine ∧ d.hasDict = false ∧ Q (.str d.shown) H
theorem call_reprD {X : Cx} {k : Nat} (hG : X.A.guards = some []) (hr : Room k X.A) : CallR X (.builtin "repr") (rRepr X.K) := by
  intro pins s σ H xs us Q I r h
  obtain ⟨v, d, rfl, hd, hs, hdep, hlen, hnd, q⟩ := h
  obtain ⟨u, rfl, ru⟩ := vals1 r
  have hu : X.A.units + (d.depth + 1) < cLine := by
    have := hr.units
    omega
  obtain ⟨as, rd⟩ := Dp.reads I d v u hd ru
  have noD : d.hasDict = true → sysModules ∉ as := fun z => by rw [hnd] at z; cases z
  cases rd with
  | none => exact PySem.P.repr_of_none ⟨.str _, H, I.tok _, ⟨_, rfl⟩, q⟩
  | bool b => exact PySem.P.repr_of_bool ⟨.str _, H, I.tok _, ⟨_, rfl⟩, q⟩
  | int i t => exact PySem.P.repr_of_int (of_decide_eq_true hs) ⟨.str _, H, I.tok _, ⟨_, rfl⟩, q⟩
  | str z t => exact PySem.P.repr_of_str ⟨.str _, H, I.tok _, ⟨_, rfl⟩, q⟩ hlen
  | list h1 h2 h3 h4 =>
    exact repr_of_reads' (.list h1 h2 h3 h4) hs noD hG hu (fun _ _ z => z) (fun h' t2 tk kp => ⟨.str _, H, I.kept kp, ⟨_, rfl⟩, q⟩) hlen
  | tuple h1 h2 h3 h4 =>
    exact repr_of_reads' (.tuple h1 h2 h3 h4) hs noD hG hu (fun _ _ z => z) (fun h' t2 tk kp => ⟨.str _, H, I.kept kp, ⟨_, rfl⟩, q⟩) hlen
  | dict h1 h2 h3 h4 h5 => exact absurd hnd (by simp [PyData.hasDict])
/-! ### the law itself: run by the claim's caller, around which nothing is -/
theorem law_callG {P : Program} {w : World} {K : PySem.W.Frag} {mg mb : Str → Option Value} {CX : CXT} {k : Nat} {fa a : Addr} {fd : FuncData} {x : Str} {sp : Sp} {s1 : Shared} {us : List Value} {zs : List Int}
    (inK : K.In s1.heap) (gl : s1.heap.Ns mainGlobals mg) (bl : s1.heap.Ns builtinsNs mb) (same : ∀ x : Str, x ≠ "__name__" → mb x = bootBuiltins x) (noLim : s1.heap.NoLimit) (gens : s1.gens = #[])
    (ha : s1.heap.get? a = some { cls := .type "list", data := .seq us.toArray }) (hi : IntsAre us zs) (hl : zs.length ≤ sizeLine) (hr : Room k callerA)
    (F : ∀ base : Heap, K.In base → base.Ns mainGlobals mg → FnG P w K mg base CX k fa fd [x] sp) (bind : ∀ (s : Shared) (u : Value), BindsTo s fd ⟨[u], []⟩ [(x, u)])
    (hsp : ∀ H : Hp, Only H → SqL K H a (zs.map V.int) → sp [.ref a] H (fun v _ => v = .bl true) fun _ _ _ => False)
    (hCX : ∀ H e s', CX [] H s1 (fun _ _ _ => False) e s' → False) :
    codeAny (model P w) callerA (.call (.ref fa) ⟨[.ref a], []⟩) (fun r s' => r = .ok (.ret (.bool true)) ∧ OldK s1.heap s'.heap ∧ s'.os = s1.os ∧ AllBare s'.gens) s1 := by
  -- the abstract heap H0 tracks at most the script
  have go : ∀ H0 : Hp, Only H0 → SqL K H0 a (zs.map V.int) → HOk P w H0 s1.heap → (∀ b, H0 b ≠ none → b = a) → (H0 a ≠ none → K.lookup a = none) →
      codeAny (model P w) callerA (.call (.ref fa) ⟨[.ref a], []⟩) (fun r s' => r = .ok (.ret (.bool true)) ∧ OldK s1.heap s'.heap ∧ s'.os = s1.os ∧ AllBare s'.gens) s1 := by
    intro H0 only sq hok onlyA kA
    have dictFree : ∀ (b : Addr) (o : Obj) (es : Array DictEntry) (ep : Nat), s1.heap.get? b = some o → o.data = .dict es ep → H0 b = none := by
      intro b o es ep e d
      cases q : H0 b with
      | none => rfl
      | some u =>
        obtain rfl : b = a := onlyA b (by rw [q]; simp)
        rw [ha] at e
        cases e
        cases d
    have nsH : ∀ (b : Addr) (m : Str → Option Value), s1.heap.Ns b m → (hidT s1.heap H0).Ns b m := by
      rintro b m ⟨o, es, ep, e, d, r⟩
      exact ⟨o, es, ep, hidT_get e (dictFree b o es ep e d), d, r⟩
    have inH : K.In (hidT s1.heap H0) := by
      intro b o e
      refine hidT_get (inK b o e) ?_
      cases q : H0 b with
      | none => rfl
      | some u =>
        obtain rfl : b = a := onlyA b (by rw [q]; simp)
        rw [kA (by rw [q]; simp)] at e
        cases e
    obtain ⟨mc, l1, l2⟩ := noLim
    have md : Mod K mg (hidT s1.heap H0) := ⟨inH, nsH _ _ gl, ⟨mb, nsH _ _ bl, same⟩, ⟨mc, nsH _ _ l1, l2⟩⟩
    have e0 : Env0 P w K mg (hidT s1.heap H0) callerA [] s1 H0 :=
      ⟨rfl, md, fun b o e => of_hidT e, Nat.le_of_eq (hidT_size _ _), trivial, (fun b hb => nomatch hb), hok, .of_eq gens⟩
    have run := (F _ inH (nsH _ _ gl)).run callerA [] s1 H0 ⟨[.ref a], []⟩ [.ref a] [.ref a] _ _ hr rfl e0 (bind s1 (.ref a)) (.cons rfl .nil) (hsp H0 only sq)
    refine codeAny_mono run fun res s2 h => ?_
    cases res with
    | error e => exact (hCX H0 e s2 h).elim
    | ok fl =>
      cases fl with
      | next => exact h.elim
      | brk => exact h.elim
      | cont => exact h.elim
      | ret u =>
        obtain ⟨v, H2, os2, bare2, un, hok2, rv, q⟩ := h
        obtain rfl : v = .bl true := q
        obtain rfl : u = Value.bool true := rv
        refine ⟨rfl, OldK.of_keep fun b o e => ?_, os2, bare2⟩
        rcases only b with z | ⟨ob, xs, z⟩
        · exact un.keep b o e z (fun y => nomatch y) (fun y => nomatch y)
        · obtain ⟨g1, _⟩ := hok b _ z
          obtain ⟨g2, _⟩ := hok2 b _ (un.frzs b ob _ z)
          rw [e] at g1
          cases g1
          exact g2
  cases hk : K.lookup a with
  | some o =>
    have e := inK a o hk
    rw [ha] at e
    cases e
    exact go (fun _ => none) (fun _ => .inl rfl) (.inr ⟨_, us.toArray, _, hk, rfl, rfl, rfl, by rw [List.size_toArray, hi.length]; exact hl, by simpa using vals_ints hi⟩)
      (fun b u z => nomatch z) (fun b z => absurd rfl z) fun z => absurd rfl z
  | none =>
    let fz : HO := .frz { cls := .type "list", data := .seq us.toArray } (.lst (zs.map V.int))
    have atA : upd (fun _ => none) a fz a = some fz := upd_same
    refine go (upd (fun _ => none) a fz) (fun b => ?_) (.inl (.inr ⟨_, atA⟩)) (fun b u z => ?_) (fun b z => ?_) fun _ => hk
    · by_cases hb : b = a
      · subst hb
        exact .inr ⟨_, _, atA⟩
      · exact .inl (upd_ne hb)
    · by_cases hb : b = a
      · subst hb
        rw [atA] at z
        cases z
        exact ⟨ha, by rw [List.length_map]; exact hl, us, _, vals_ints hi, ha⟩
      · rw [upd_ne hb] at z
        cases z
    · by_cases hb : b = a
      · exact hb
      · exact absurd (upd_ne hb) z
theorem walk_ofG {l : PySem.W.OpenLaw} {n k : Nat} {q : Program} {loose : List Str} {XP : (Str → Option Value) → Heap → Prop} {YP : World → Heap → Prop} {d : DefRec} {CX : CXT} {x : Str}
    (hn : l.most = some n) (hn2 : n ≤ sizeLine) (hdf : d.params.defaults = []) (hr : Room k callerA)
    (F : ∀ (w : World) (mg : Str → Option Value) (fa : Addr) (h : Heap), YP w h → h.Ns mainGlobals mg → mg d.name = some (.ref fa) →
      ∃ (K : PySem.W.Frag) (fd : FuncData) (sp : Sp), K.In h ∧ (∀ (s : Shared) (u : Value), BindsTo s fd ⟨[u], []⟩ [(x, u)]) ∧
        (∀ (H : Hp) (a : Addr) (ns : List Int), ns.length ≤ n → Only H → SqL K H a (ns.map V.int) → sp [.ref a] H (fun v _ => v = .bl true) fun _ _ _ => False) ∧
        ∀ base : Heap, K.In base → base.Ns mainGlobals mg → FnG l.prog w K mg base CX k fa fd [x] sp)
    (hCX : ∀ (H : Hp) (s : Shared) (e : Value) (s' : Shared), CX [] H s (fun _ _ _ => False) e s' → False) :
    PySem.W.WalkO q loose XP YP l.row.toRowW d [] (fun f vs => PySem.call f vs) := by
  refine Att.attach_call hn hdf ?_
  intro w s0 s1 mg mb fa o pm cd doc a us zs G Y _ _ _ hmg hobj hints hlen hg
  obtain ⟨K, fd, sp, inK, hb, hsp, hF⟩ := F w mg fa _ Y G.T.g hmg
  exact law_callG inK G.T.g G.T.b G.T.builtins G.T.nolimit hg hobj hints (Nat.le_trans hlen hn2) hr hF hb (fun H o1 sq => hsp H a zs hlen o1 sq) fun H e s2 => hCX H s1 e s2
end Wp
set_option Elab.async false
set_option linter.all false
set_option maxRecDepth 100000
set_option maxHeartbeats 4000000
/-! The rules whose reading names the written part, with the written part as a letter of its own (so that readings within comprehensions and outside are the same). -/
namespace Wp
open PySem PySem.Spec PyProof.Rows L2
section
variable {X : Cx} {K : PySem.W.Frag}
theorem ix_listK (h : X.K = K) : IxR X (rIxL K) := by subst h; exact ix_list
theorem ix_tupK (h : X.K = K) : IxR X (rIxT K) := by subst h; exact ix_tup
theorem ix_seqK (h : X.K = K) : IxR X (rIx K) := by subst h; exact ix_seq
theorem sl_listK (h : X.K = K) : SlR X (rSlL K) := by subst h; exact sl_list
theorem sl_tupK (h : X.K = K) : SlR X (rSlT K) := by subst h; exact sl_tup
theorem c_lenK (h : X.K = K) : CallR X (.builtin "len") (rLen K) := by subst h; exact c_len
theorem c_listK (h : X.K = K) : CallR X (.type "list") (rListOf K) := by subst h; exact c_list
theorem c_isiK (h : X.K = K) : CallR X (.builtin "isinstance") (rIsi K) := by subst h; exact call_isi
theorem c_isiTK (h : X.K = K) : CallR X (.builtin "isinstance") (rIsiT K) := by subst h; exact call_isiT
theorem c_sumK (h : X.K = K) (c : X.calm = true) : CallR X (.builtin "sum") (rSum K) := by subst h; exact cr_sum c
theorem c_allK (h : X.K = K) (c : X.calm = true) : CallR X (.builtin "all") (rAll K) := by subst h; exact cr_all c
theorem c_anyK (h : X.K = K) (c : X.calm = true) : CallR X (.builtin "any") (rAny K) := by subst h; exact cr_any c
theorem c_minK (h : X.K = K) (c : X.calm = true) : CallR X (.builtin "min") (rMin K) := by subst h; exact cr_min c
theorem c_maxK (h : X.K = K) (c : X.calm = true) : CallR X (.builtin "max") (rMax K) := by subst h; exact cr_max c
theorem c_sortedK (h : X.K = K) : CallR X (.builtin "sorted") (rSorted K) := by subst h; exact cr_sorted
theorem c_sortedSK (h : X.K = K) : CallR X (.builtin "sorted") (rSortedS K) := by subst h; exact cr_sortedS
theorem c_reprK {k : Nat} (h : X.K = K) (hG : X.A.guards = some []) (hr : Room k X.A) : CallR X (.builtin "repr") (rRepr K) := by subst h; exact call_reprD hG hr
def rTupOf (K : PySem.W.Frag) : List V → Hp → VK → Prop := fun xs H Q => ∃ p ys, xs = [.ref p] ∧ ((SqL K H p ys ∧ ∀ l, H l = none → Q (.ref l) (upd H l (.tup ys))) ∨ (SqT K H p ys ∧ Q (.ref p) H))
theorem c_tupleK (h : X.K = K) : CallR X (.type "tuple") (rTupOf K) := by subst h; exact call_tuple_of
theorem in_seqK (h : X.K = K) : OpR X (compareOp .In) (rIn K false) := by subst h; exact op_in_seq
theorem notIn_seqK (h : X.K = K) : OpR X (compareOp .NotIn) (rIn K true) := by subst h; exact op_notIn_seq
theorem eqDK (h : X.K = K) (hu : X.A.units + 64 < cLine) : OpR X (compareOp .Eq) (rEqD K) := by subst h; exact op_eqD hu
theorem neDK (h : X.K = K) (hu : X.A.units + 64 < cLine) : OpR X (compareOp .NotEq) (rNeD K) := by subst h; exact op_neD hu
theorem pe_fldK {e : Expr} {f : Str} {pos : Pos} {ta : TE} (h : X.K = K) (he : PE X e ta) (hb : attributeBase e f X.env (eval e X.env) = eval e X.env := by rfl) : PE X (.Attribute e f pos) (tFld K ta f) := by
  subst h
  exact pe_fld he hb
theorem ps_fldK {o value : Expr} {f : Str} {pos pos' : Pos} {ta tv : TE} (h : X.K = K) (ha : PE X o ta) (hv : PE X value tv) (hs : swapsWith value (some (.Attribute o f pos')) pos.line X.env = pure false := by rfl) : PS X (.Assign [.Attribute o f pos'] value pos) (sFld K ta tv f) := by
  subst h
  exact ps_fld ha hv hs
theorem pg_tupK {es : List Expr} {k : Nat} {t : TGs} {n : Nat} {pos : Pos} (h : X.K = K) (hc : X.calm = true) (hh : PGs X es t)
    (hn : (assignEach es X.env).length = n := by rfl) (hst : (assignEach es X.env).findIdx? (·.1) = none := by rfl) : PG X (.Tuple es k pos) (gTup K n t) := by
  subst h
  exact pg_tup hc hh hn hst
theorem pi_listK {l tg : Expr} {tl : TE} (h : X.K = K) (hl : PE X l tl) : PI X tg l (iList K tl) := by
  subst h
  exact pi_list hl
theorem pi_tupK {l tg : Expr} {tl : TE} (h : X.K = K) (hl : PE X l tl) : PI X tg l (iTup K tl) := by
  subst h
  exact pi_tup hl
theorem pe_bmK {T : String} {name : Str} {id : String} {r : V → List V → Hp → VK → Prop} {o e : Expr} {es : List Expr} {to : TE} {t : TA} {apos cpos : Pos} (h : X.K = K) (pa : PlainAttrs T) (slot : Slot T name id) (hty : typeOf (.builtin id) = pure (.type "method_descriptor")) (hm : MtR X id r) (ho : PE X o to) (ha : PA X (e :: es) t)
    (hbase : attributeBase o name X.env (eval o X.env) = eval o X.env := by rfl)
    (hfew : ((backTo cpos (starEach (e :: es) X.env)).all (fun x => !x.1) && (backToKw cpos (keywordEach [] X.env)).all (fun x => x.1.isSome) && decide ((e :: es).length + ([] : List Keyword).length + (if ([] : List Keyword).isEmpty then 0 else 1) < 30)) = true := by rfl)
    (hline : (apos.endLine == cpos.line) = true := by rfl) (he : starEach (e :: es) X.env = (false, eval e X.env) :: starEach es X.env := by rfl) (hpl : (backTo cpos (starEach es X.env)).any (·.1) = false := by rfl) :
    PE X (.Call (.Attribute o name apos) (e :: es) [] cpos) (tBM K T r to t) := by
  subst h
  exact pe_bm pa slot hty hm ho ha hbase hfew hline he hpl
end
end Wp
set_option Elab.async false
set_option linter.all false
set_option maxRecDepth 100000
set_option maxHeartbeats 4000000
/-! Calls by keywords alone; classes called; isinstance. -/
namespace Wp
open PySem PySem.Spec PyProof.Rows L2
def swap2 {α : Type} : List α → List α
  | [a, b] => [b, a]
  | l => l
def rev3 {α : Type} : List α → List α
  | [a, b, c] => [c, b, a]
  | l => l
theorem swap2_rel {vs : List V} {us : List Value} (r : Vals vs us) : Vals (swap2 vs) (swap2 us) := by
  match vs, us, r with
  | [], _, .nil => exact .nil
  | [_], _, .cons a .nil => exact .cons a .nil
  | [_, _], _, .cons a (.cons b .nil) => exact .cons b (.cons a .nil)
  | _ :: _ :: _ :: _, _, .cons a (.cons b (.cons c d)) => exact .cons a (.cons b (.cons c d))
theorem rev3_rel {vs : List V} {us : List Value} (r : Vals vs us) : Vals (rev3 vs) (rev3 us) := by
  match vs, us, r with
  | [], _, .nil => exact .nil
  | [_], _, .cons a .nil => exact .cons a .nil
  | [_, _], _, .cons a (.cons b .nil) => exact .cons a (.cons b .nil)
  | [_, _, _], _, .cons a (.cons b (.cons c .nil)) => exact .cons c (.cons b (.cons a .nil))
  | _ :: _ :: _ :: _ :: _, _, .cons a (.cons b (.cons c (.cons d e))) => exact .cons a (.cons b (.cons c (.cons d e)))
/-- a def called by keywords ks alone; g puts their values in the parameters' order -/
structure Dq (P : Program) (w : World) (K : PySem.W.Frag) (mg : Str → Option Value) (base : Heap)
    (CX : CXT) (k : Nat) (x : Str) (ks : List Str) (g : List V → List V) (sp : Sp) : Prop where
  ex : ∃ (fd : FuncData) (ps : List Str) (gv : List Value → List Value), FnOk P w K mg base CX k (He.ga K x) fd ps sp ∧ KBn K fd ps 0 ks (fun _ ws => gv ws) (fun _ zs => g zs)
  gm : mg x = some (.ref (He.ga K x))
  kp : PySem.W.keepIn K (.ref (He.ga K x)) = true
def kFnK (n : Nat) (g : List V → List V) (sp : Sp) (E : XK) (Q : VK) : List V → Hp → Prop := fun zs H1 => zs.length = n ∧ sp (g zs) H1 Q E
def tFnK (n : Nat) (g : List V → List V) (sp : Sp) (E : XK) (tk : TA) : TE := fun σ H Q => tk σ H (kFnK n g sp E Q)
section
variable {X : Cx}
theorem pe_fnK0 {CX : CXT} {k : Nat} {x : Str} {ks : List Str} {g : List V → List V} {sp : Sp} {E : XK} {kws : List Keyword} {tk : TA} {p pos : Pos}
    (D : Dq X.prog X.w X.K X.mg X.base CX k x ks g sp) (hr : Room k X.A) (hx : Passes CX X E) (hkw : PK X kws tk) (hg : Gl X x := by rfl)
    (hall : (backToKw pos (keywordEach kws X.env)).all (·.1.isSome) = true := by rfl) (hks : (backToKw pos (keywordEach kws X.env)).filterMap (·.1) = ks := by rfl)
    (hdb : (x == ("__debug__" : Str)) = false := by decide)
    (hpl : ((backTo pos (starEach [] X.env)).any (·.1) || (backToKw pos (keywordEach kws X.env)).any (·.1.isNone)) = false := by rfl) :
    PE X (.Call (.Name x p) [] kws pos) (tFnK ks.length g sp E tk) := by
  obtain ⟨fd, ps, gv, F, b⟩ := D.ex
  refine ⟨fun pins s σ H Q I h => wpAny_Call_Name_kw (ld_glob I hg D.gm ?_ hdb)⟩
  refine PySem.W.callWith_KW0 (h₀ := X.base) I.ok.mod.kin D.kp hall (thn (hkw.run pos pins s σ H _ I h) ?_) hpl
  rintro ws s2 ⟨zs, H2, I2, rz, l2, q2⟩
  refine ⟨I2.kIn, ?_⟩
  rw [hks]
  exact run_fnN (us := []) (vs := []) F hr b hx I2 .nil rz rfl l2 q2
theorem r_fnK {n : Nat} {g : List V → List V} {sp : Sp} {E : XK} {tk : TA} {σ : L2.St} {H : Hp} {Q : VK} (q : tk σ H (kFnK n g sp E Q)) : tFnK n g sp E tk σ H Q := q
theorem r_kFnK {n : Nat} {g : List V → List V} {sp : Sp} {E : XK} {H : Hp} {Q : VK} {zs : List V} (l : zs.length = n) (q : sp (g zs) H Q E) : kFnK n g sp E Q zs H := ⟨l, q⟩
end
section
variable {P : Program} {w : World} {K : PySem.W.Frag} {mg : Str → Option Value} {base : Heap} {x qual : Str} {params : Arguments} {body : List Stmt} {scope : Scope} {dvs : List V} {kws : List (Str × V)} {f : Addr} {fd : FuncData}
/-- how keywords alone bind (a def without defaults) -/
theorem kbn_of {ps ks : List Str} {gv : List Value → List Value} {g : List V → List V} (F : FunD K x qual params body scope [] kws f fd)
    (hrel : ∀ {vs : List V} {us : List Value}, Vals vs us → Vals (g vs) (gv us))
    (h : ∀ (kV doc pm : Value) (an : Option Addr) (cdv ct : Value) (ws : List Value), ws.length = ks.length → bindArgs (PySem.W.fnOf x qual params body scope .none kV doc pm an cdv ct) ⟨[], ks.zip ws⟩ = pure (ps.zip (gv ws))) :
    KBn K fd ps 0 ks (fun _ ws => gv ws) (fun _ zs => g zs) := by
  obtain ⟨oc, od, dV, kV, doc, pm, an, cdv, ct, osl, rfl, lk, hcd, hD, hK⟩ := F.ex
  rcases hD with ⟨_, rfl⟩ | ⟨e, _⟩
  · refine ⟨fun s us ws _ l1 l2 => ?_, fun _ r => hrel r⟩
    obtain rfl : us = [] := List.length_eq_zero_iff.mp l1
    exact .of_eq (h kV doc pm an cdv ct ws l2)
  · exact absurd rfl e
end
/-! ### classes called -/
/-- what a new instance of the class at C is given to: its __init__ with the promise sp -/
def spMk (C : Addr) (sp : Sp) (dvs : List V) : Sp := fun vs H Q E => ∀ x dx, H x = none → H dx = none → dx ≠ x →
  sp (.ref x :: (vs ++ dvs)) (upd (upd H dx (.own x)) x (.ins C dx [])) (fun v H2 => v = .non ∧ Q (.ref x) H2) E
structure Dc (P : Program) (w : World) (K : PySem.W.Frag) (mg : Str → Option Value) (base : Heap)
    (CX : CXT) (k : Nat) (x : Str) (sp : Sp) : Prop where
  ex : ∃ fI fd ps spI dvs ds, Mk K (He.ga K x) fI ∧ FnOk P w K mg base CX k fI fd ps spI ∧ Binds K fd ps ds ∧ Vals dvs ds ∧ ∀ vs H Q E, sp vs H Q E → spMk (He.ga K x) spI dvs vs H Q E
  gm : mg x = some (.ref (He.ga K x))
section
variable {X : Cx}
theorem pe_mk {CX : CXT} {k : Nat} {x : Str} {sp : Sp} {E : XK} {e : Expr} {es : List Expr} {t : TA} {p pos : Pos}
    (D : Dc X.prog X.w X.K X.mg X.base CX k x sp) (hr : Room (k + 1) X.A) (hx : Passes CX X E) (ha : PA X (e :: es) t) (hg : Gl X x := by rfl)
    (hdb : (x == ("__debug__" : Str)) = false := by decide)
    (he : starEach (e :: es) X.env = (false, eval e X.env) :: starEach es X.env := by rfl)
    (hpl : (backTo pos (starEach es X.env)).any (·.1) = false := by rfl) :
    PE X (.Call (.Name x p) (e :: es) [] pos) (tFn sp E t) := by
  obtain ⟨fI, fd, ps, spI, dvs, ds, M, F, b, hd, imp⟩ := D.ex
  refine ⟨fun pins s σ H Q I h => wpAny_Call_Name_kw (ld_glob I hg D.gm ?_ hdb)⟩
  refine PySem.W.callWith_K (h₀ := X.base) I.ok.mod.kin M.kp (thn (ha.run pos pins s σ H _ I h) ?_) he hpl
  rintro us s1 ⟨vs, H1, I1, r, q⟩
  exact ⟨I1.kIn, run_make M F hr b hd hx I1 r (imp vs H1 Q E q)⟩
end
/-! ### isinstance of plain values -/
section
variable {K : PySem.W.Frag} {H : Hp} {Q : VK} {x : V} {i : Int} {b : Bool} {z : Str} {p : Addr} {xs : List V}
theorem r_isiT {a c : String} {r : Bool} (h : TyX K H x (.type a)) (hk : kitB a c = some r) (q : Q (.bl r) H) : rIsi K [x, .ty c] H Q := ⟨x, .ty c, .type a, .type c, r, rfl, .ty c, h, kit_ty hk, q⟩
theorem r_isi_ii (q : Q (.bl true) H) : rIsi K [.int i, .ty "int"] H Q := r_isiT (.base (.int i)) (by decide +kernel) q
theorem r_isi_ib (q : Q (.bl false) H) : rIsi K [.int i, .ty "bool"] H Q := r_isiT (.base (.int i)) (by decide +kernel) q
theorem r_isi_is (q : Q (.bl false) H) : rIsi K [.int i, .ty "str"] H Q := r_isiT (.base (.int i)) (by decide +kernel) q
theorem r_isi_it (q : Q (.bl false) H) : rIsi K [.int i, .ty "tuple"] H Q := r_isiT (.base (.int i)) (by decide +kernel) q
theorem r_isi_bi (q : Q (.bl true) H) : rIsi K [.bl b, .ty "int"] H Q := r_isiT (.base (.bl b)) (by decide +kernel) q
theorem r_isi_bb (q : Q (.bl true) H) : rIsi K [.bl b, .ty "bool"] H Q := r_isiT (.base (.bl b)) (by decide +kernel) q
theorem r_isi_ss (q : Q (.bl true) H) : rIsi K [.str z, .ty "str"] H Q := r_isiT (.base (.str z)) (by decide +kernel) q
theorem r_isi_tt (h : H p = some (.tup xs)) (q : Q (.bl true) H) : rIsi K [.ref p, .ty "tuple"] H Q := r_isiT (.base (.tup h)) (by decide +kernel) q
/-- is it a number -/
inductive NumV (K : PySem.W.Frag) (H : Hp) : V → Option Int → Prop
  | int (i : Int) : NumV K H (.int i) (some i)
  | no {x : V} {t : Value} {b1 b2 : Bool} : TyX K H x t → PySem.W.kitOne K t (.type "int") = some b1 → PySem.W.kitOne K t (.type "bool") = some b2 → (b1 && !b2) = false → NumV K H x none
def inB : Option Int → Int → Int → Bool
  | some i, lo, hi => decide (lo ≤ i) && decide (i ≤ hi)
  | none, _, _ => false
theorem inB_yes {i lo hi : Int} (h : lo ≤ i ∧ i ≤ hi) : inB (some i) lo hi = true := by
  simp [inB, h.1, h.2]
end
end Wp
set_option Elab.async false
set_option linter.all false
set_option maxRecDepth 100000
set_option maxHeartbeats 4000000
/-! Properties of own classes: a rule by name, and a look at their getters when the program has been run. -/
namespace Wp
open PySem PySem.Spec PyProof.Rows L2
/-- a property whose getter keeps the promise -/
structure Dpr (P : Program) (w : World) (K : PySem.W.Frag) (mg : Str → Option Value) (base : Heap) (CX : CXT) (k : Nat) (C : Addr) (f : Str) (sp : Sp) : Prop where
  ex : ∃ (p g : Addr) (fd : FuncData) (ps : List Str), PropOf K C f p g ∧ FnOk P w K mg base CX k g fd ps sp ∧ Binds K fd ps []
  cl : Cls K C
def kProp (C : Addr) (sp : Sp) (E : XK) (Q : VK) : VK := fun x H1 => ∃ a dx fs, x = .ref a ∧ H1 a = some (.ins C dx fs) ∧ sp [.ref a] H1 Q E
section
variable {X : Cx} {CX : CXT} {k : Nat} {C a dx : Addr} {f : Str} {sp : Sp} {E : XK} {e : Expr} {pos : Pos} {ta : TE} {fs : List (Str × V)}
theorem pe_propA (D : Dpr X.prog X.w X.K X.mg X.base CX k C f sp) (he : PE X e ta) (hr : Room (k + 1) X.A) (hx : Passes CX X.nox E)
    (hab : attributeBase e f X.env (eval e X.env) = eval e X.env := by rfl) : PE X (.Attribute e f pos) (tProp C sp [] E ta) := by
  obtain ⟨p, g, fd, ps, h1, h2, h3⟩ := D.ex
  exact pe_prop he D.cl h1 h2 hr h3 .nil hx hab
theorem r_prop {σ : L2.St} {H : Hp} {Q : VK} (q : ta σ H (kProp C sp E Q)) : tProp C sp [] E ta σ H Q := q
theorem r_kProp {H : Hp} {Q : VK} (h : H a = some (.ins C dx fs)) (q : sp [.ref a] H Q E) : kProp C sp E Q (.ref a) H := ⟨a, dx, fs, rfl, h, q⟩
end
/-! x += e -/
theorem r_aug {i : Nat} {te : TE} {ti : TIp} {D : Ends} {σ : L2.St} {H : Hp} {x : V} (h : σ[i]? = some (some x)) (q : te σ H fun y H1 => ti x y H1 fun z H2 => D.nx (σ.set i (some z)) H2) : tAug i te ti D σ H := ⟨x, h, q⟩
theorem r_ipI {f : Int → Int → Int} {i j : Int} {H : Hp} {Q : VK} (q : Q (.int (f i j)) H) : ipI f (.int i) (.int j) H Q := ⟨i, j, rfl, rfl, q⟩
/-! ### the look -/
/-- where the getter of the property f of class c stands -/
def gAd (K : PySem.W.Frag) (c f : Str) : Addr := match PySem.W.recIn K (He.ma K (He.ga K c) f) "property" with
  | some (.ref g :: _) => g
  | _ => 0
structure GetD where
  c : Str
  f : Str
  qual : Str
  params : Arguments
  body : List Stmt
  scope : Scope
def fnY (K : PySem.W.Frag) (d : GetD) : He.FnW := match K.lookup (gAd K d.c d.f) with
  | some ⟨_, _, .func z, _⟩ => some (z.name, z.qualname, z.params, z.body, z.scope, z.globals, z.closure, z.builtins)
  | _ => none
def GetD.val (d : GetD) : He.FnW := some (d.f, d.qual, d.params, .stmts d.body, d.scope, mainGlobals, [], builtinsNs)
def propB (K : PySem.W.Frag) (c f : Str) : Bool := He.eqO (PySem.W.findIn K (.ref (He.ga K c)) f) (some (some (.ref (He.ma K (He.ga K c) f)))) &&
  (He.eqO (PySem.W.specialIn K (.ref (He.ma K (He.ga K c) f)) "__get__") (some (some (.builtin "property.__get__"))) && (decide (PySem.W.takesIn K (.ref (He.ma K (He.ga K c) f)) = some true) &&
  (match PySem.W.recIn K (He.ma K (He.ga K c) f) "property" with
  | some (.ref _ :: _) => true
  | _ => false)))
def GetD.ok (K : PySem.W.Frag) (d : GetD) : Bool := propB K d.c d.f && (PySem.W.keepIn K (.ref (gAd K d.c d.f)) && (match K.lookup (gAd K d.c d.f) with
  | some ⟨_, _, .func z, _⟩ => PySem.W.codeIn K z.code d.qual && (He.dflB K z.defaults [] && He.kwdB K z.kwdefaults [])
  | _ => false))
theorem propB_ok {K : PySem.W.Frag} {c f : Str} (h : propB K c f = true) : PropOf K (He.ga K c) f (He.ma K (He.ga K c) f) (gAd K c f) := by
  obtain ⟨h1, h⟩ := He.ba h
  obtain ⟨h2, h⟩ := He.ba h
  obtain ⟨h3, h4⟩ := He.ba h
  refine ⟨He.eqO_ok h1, He.eqO_ok h2, of_decide_eq_true h3, ?_⟩
  unfold gAd
  cases q : PySem.W.recIn K (He.ma K (He.ga K c) f) "property" with
  | none =>
    rw [q] at h4
    cases h4
  | some l =>
    rw [q] at h4
    cases l with
    | nil => cases h4
    | cons x r =>
      cases x with
      | ref g => exact ⟨r, rfl⟩
      | _ => cases h4
theorem GetD.funD {K : PySem.W.Frag} {d : GetD} (e : fnY K d = d.val) (c : d.ok K = true) : PropOf K (He.ga K d.c) d.f (He.ma K (He.ga K d.c) d.f) (gAd K d.c d.f) ∧ ∃ fd, FunD K d.f d.qual d.params d.body d.scope [] [] (gAd K d.c d.f) fd := by
  obtain ⟨hp, c1⟩ := He.ba c
  refine ⟨propB_ok hp, ?_⟩
  obtain ⟨hk, c2⟩ := He.ba c1
  unfold fnY at e
  cases q : K.lookup (gAd K d.c d.f) with
  | none =>
    rw [q] at e
    cases e
  | some o =>
    obtain ⟨a1, a2, a3, a4⟩ := o
    rw [q] at e c2
    cases a3 with
    | func z =>
      obtain ⟨z1, z2, z3, z4, z5, z6, z7, z8, z9, z10, z11, z12, z13, z14, z15⟩ := z
      have e3 : ((z1, z2, z3, z4, z5, z6, z7, z15) : Str × Str × Arguments × FuncBody × Scope × Addr × List (Str × Addr) × Addr) = (d.f, d.qual, d.params, .stmts d.body, d.scope, mainGlobals, [], builtinsNs) := Option.some.inj e
      simp only [Prod.mk.injEq] at e3
      obtain ⟨rfl, rfl, rfl, rfl, rfl, rfl, rfl, rfl⟩ := e3
      obtain ⟨k1, k2⟩ := He.ba (a := PySem.W.codeIn K z13 d.qual) c2
      obtain ⟨k3, k4⟩ := He.ba k2
      exact ⟨_, ⟨a1, a2, z8, z9, z10, z11, z12, z13, z14, a4, rfl, q, k1, He.dflB_ok k3, He.kwdB_ok k4⟩, hk⟩
    | _ => cases e
/-- what is told besides: the getters -/
abbrev AlY : Type := He.AlX × Bool × List He.FnW
def obsY (n : Nat) (fa : List He.Fa) (fn : List He.DefD) (gs : List GetD) (ex : PySem.W.Frag → Bool) (g : Addr → Option Obj) : AlY :=
  (He.obsX n fa fn [] [] ex g, gs.all (fun d => d.ok (He.frT g (He.asD g n))), gs.map fun d => fnY (He.frT g (He.asD g n)) d)
def valY (fn : List He.DefD) (gs : List GetD) (w : World) : AlY := (He.valX fn [] w, true, gs.map GetD.val)
structure SaysY (fa : List He.Fa) (fn : List He.DefD) (gs : List GetD) (ex : PySem.W.Frag → Bool) (w : World) (h : Heap) (K : PySem.W.Frag) : Prop where
  x : He.SaysX fa fn [] [] ex w h K
  g : ∀ d ∈ gs, PropOf K (He.ga K d.c) d.f (He.ma K (He.ga K d.c) d.f) (gAd K d.c d.f) ∧ ∃ fd, FunD K d.f d.qual d.params d.body d.scope [] [] (gAd K d.c d.f) fd
theorem saysY_of {n : Nat} {fa : List He.Fa} {fn : List He.DefD} {gs : List GetD} {ex : PySem.W.Frag → Bool} {w : World} {h : Heap} (e : obsY n fa fn gs ex h.get? = valY fn gs w) : SaysY fa fn gs ex w h (He.frT h.get? (He.asD h.get? n)) := by
  have e1 : He.obsX n fa fn [] [] ex h.get? = He.valX fn [] w := congrArg (fun z : AlY => z.1) e
  have e2 : gs.all (fun d => d.ok (He.frT h.get? (He.asD h.get? n))) = true := congrArg (fun z : AlY => z.2.1) e
  have e3 : gs.map (fun d => fnY (He.frT h.get? (He.asD h.get? n)) d) = gs.map GetD.val := congrArg (fun z : AlY => z.2.2) e
  exact ⟨He.saysX_of e1, fun d hd => GetD.funD (List.map_inj_left.mp e3 d hd) (List.all_eq_true.mp e2 d hd)⟩
def hookY (n : Nat) (fa : List He.Fa) (fn : List He.DefD) (gs : List GetD) (ex : PySem.W.Frag → Bool) : PySem.W.Hook where
  α := AlY
  obs := fun s => obsY n fa fn gs ex s.heap.get?
  val := fun w => valY fn gs w
  says := fun w h => ∃ K : PySem.W.Frag, K.In h ∧ SaysY fa fn gs ex w h K
  of := fun _ _ e => ⟨_, He.frT_in, saysY_of e⟩
  keeps := fun _ _ _ ⟨K, hK, c⟩ k => ⟨K, PySem.W.Frag.In.keeps hK k, ⟨⟨c.x.t, c.x.more, c.x.hd, c.x.out, fun p hp => k _ _ (c.x.empty p hp)⟩, c.g⟩⟩
theorem obsY_eq {n : Nat} {fa : List He.Fa} {fn : List He.DefD} {gs : List GetD} {ex : PySem.W.Frag → Bool} {g : Addr → Option Obj} {s : Shared} (h : ∀ a, g a = s.heap.get? a) : obsY n fa fn gs ex g = (hookY n fa fn gs ex).obs s := by
  obtain rfl : g = s.heap.get? := funext h
  rfl
end Wp
set_option Elab.async false
set_option linter.all false
set_option maxRecDepth 100000
set_option maxHeartbeats 0
/-! A look at classes: what isinstance needs. -/
namespace Wp
open PySem PySem.Spec PyProof.Rows L2
def insB (K : PySem.W.Frag) (C : Addr) : Bool := decide (PySem.W.findIn K (.ref C) "__class__" = some (some (.builtin "object.__class__"))) && (decide (PySem.W.specialIn K (.builtin "object.__class__") "__get__" = some (some (.builtin "getset_descriptor.__get__")))
  && (decide (PySem.W.takesIn K (.builtin "object.__class__") = some true) && (decide (PySem.W.mroIn K C (.type "object") = some true) && decide (PySem.W.kitOne K (.ref C) (.ref C) = some true))))
theorem insB_ok {K : PySem.W.Frag} {C : Addr} (cl : Cls K C) (h : insB K C = true) : C8.InsC K C := by
  obtain ⟨h1, h⟩ := He.ba h
  obtain ⟨h2, h⟩ := He.ba h
  obtain ⟨h3, h⟩ := He.ba h
  obtain ⟨h4, h5⟩ := He.ba h
  exact ⟨cl, of_decide_eq_true h1, of_decide_eq_true h2, of_decide_eq_true h3, of_decide_eq_true h4, of_decide_eq_true h5⟩
end Wp
set_option Elab.async false
set_option linter.all false
set_option maxRecDepth 100000
set_option maxHeartbeats 0
namespace Wp
open PySem PySem.Spec PyProof.Rows L2
def D__law_begun : He.DefD := ⟨("_law_begun", none), "_law_begun", "_law_begun", defArgs (topS 41), defBody (topS 41), defScope (topS 41), [], []⟩
def D__law_mixed : He.DefD := ⟨("_law_mixed", none), "_law_mixed", "_law_mixed", defArgs (topS 42), defBody (topS 42), defScope (topS 42), [], []⟩
def D__law_take : He.DefD := ⟨("_law_take", none), "_law_take", "_law_take", defArgs (topS 43), defBody (topS 43), defScope (topS 43), [], []⟩
def D__law_pick : He.DefD := ⟨("_law_pick", none), "_law_pick", "_law_pick", defArgs (topS 44), defBody (topS 44), defScope (topS 44), [], []⟩
def D__law_names : He.DefD := ⟨("_law_names", none), "_law_names", "_law_names", defArgs (topS 46), defBody (topS 46), defScope (topS 46), [], []⟩
def D__law_some : He.DefD := ⟨("_law_some", none), "_law_some", "_law_some", defArgs (topS 45), defBody (topS 45), defScope (topS 45), [], []⟩
def D_is_number : He.DefD := ⟨("is_number", none), "is_number", "is_number", defArgs (topS 20), defBody (topS 20), defScope (topS 20), [], []⟩
def D_is_number_in : He.DefD := ⟨("is_number_in", none), "is_number_in", "is_number_in", defArgs (topS 21), defBody (topS 21), defScope (topS 21), [], []⟩
def D_is_list : He.DefD := ⟨("is_list", none), "is_list", "is_list", defArgs (topS 22), defBody (topS 22), defScope (topS 22), [], []⟩
def D_is_name : He.DefD := ⟨("is_name", none), "is_name", "is_name", defArgs (topS 23), defBody (topS 23), defScope (topS 23), [], []⟩
def D_are_lengths : He.DefD := ⟨("are_lengths", none), "are_lengths", "are_lengths", defArgs (topS 24), defBody (topS 24), defScope (topS 24), [], []⟩
def D_is_kind : He.DefD := ⟨("is_kind", none), "is_kind", "is_kind", defArgs (topS 25), defBody (topS 25), defScope (topS 25), [], []⟩
def D_are_kinds : He.DefD := ⟨("are_kinds", none), "are_kinds", "are_kinds", defArgs (topS 26), defBody (topS 26), defScope (topS 26), [], []⟩
def D_is_order : He.DefD := ⟨("is_order", none), "is_order", "is_order", defArgs (topS 27), defBody (topS 27), defScope (topS 27), [], []⟩
def D_Book___init__ : He.DefD := ⟨("Book", some "__init__"), "__init__", "Book.__init__", defArgs (inClass (topS 29) 0), defBody (inClass (topS 29) 0), defScope (inClass (topS 29) 0), [.int 0, .str "day", .non], []⟩
def D_Book_parts_told : He.DefD := ⟨("Book", some "parts_told"), "parts_told", "Book.parts_told", defArgs (inClass (topS 29) 8), defBody (inClass (topS 29) 8), defScope (inClass (topS 29) 8), [], []⟩
def D_Book_with_part : He.DefD := ⟨("Book", some "with_part"), "with_part", "Book.with_part", defArgs (inClass (topS 29) 9), defBody (inClass (topS 29) 9), defScope (inClass (topS 29) 9), [], []⟩
def D_Book_first_at : He.DefD := ⟨("Book", some "first_at"), "first_at", "Book.first_at", defArgs (inClass (topS 29) 13), defBody (inClass (topS 29) 13), defScope (inClass (topS 29) 13), [], []⟩
def D_Book_due_at : He.DefD := ⟨("Book", some "due_at"), "due_at", "Book.due_at", defArgs (inClass (topS 29) 14), defBody (inClass (topS 29) 14), defScope (inClass (topS 29) 14), [], []⟩
def D_Book_month_at : He.DefD := ⟨("Book", some "month_at"), "month_at", "Book.month_at", defArgs (inClass (topS 29) 12), defBody (inClass (topS 29) 12), defScope (inClass (topS 29) 12), [], []⟩
def D_need_book : He.DefD := ⟨("need_book", none), "need_book", "need_book", defArgs (topS 30), defBody (topS 30), defScope (topS 30), [], []⟩
def D_need_number : He.DefD := ⟨("need_number", none), "need_number", "need_number", defArgs (topS 28), defBody (topS 28), defScope (topS 28), [], []⟩
def D_days_at : He.DefD := ⟨("days_at", none), "days_at", "days_at", defArgs (topS 35), defBody (topS 35), defScope (topS 35), [], []⟩
def D_round_of : He.DefD := ⟨("round_of", none), "round_of", "round_of", defArgs (topS 36), defBody (topS 36), defScope (topS 36), [], []⟩
def D_next_day : He.DefD := ⟨("next_day", none), "next_day", "next_day", defArgs (topS 37), defBody (topS 37), defScope (topS 37), [], []⟩
def D_is_promise : He.DefD := ⟨("is_promise", none), "is_promise", "is_promise", defArgs (topS 38), defBody (topS 38), defScope (topS 38), [], []⟩
def D_breaker : He.DefD := ⟨("breaker", none), "breaker", "breaker", defArgs (topS 39), defBody (topS 39), defScope (topS 39), [], []⟩
def D__law_model : He.DefD := ⟨("_law_model", none), "_law_model", "_law_model", defArgs (topS 47), defBody (topS 47), defScope (topS 47), [], []⟩
def D__law_made : He.DefD := ⟨("_law_made", none), "_law_made", "_law_made", defArgs (topS 48), defBody (topS 48), defScope (topS 48), [], []⟩
def D__law_first : He.DefD := ⟨("_law_first", none), "_law_first", "_law_first", defArgs (topS 49), defBody (topS 49), defScope (topS 49), [], []⟩
def D__law_month : He.DefD := ⟨("_law_month", none), "_law_month", "_law_month", defArgs (topS 50), defBody (topS 50), defScope (topS 50), [], []⟩
def D__law_due : He.DefD := ⟨("_law_due", none), "_law_due", "_law_due", defArgs (topS 51), defBody (topS 51), defScope (topS 51), [], []⟩
def D__law_can_stand : He.DefD := ⟨("_law_can_stand", none), "_law_can_stand", "_law_can_stand", defArgs (topS 52), defBody (topS 52), defScope (topS 52), [], []⟩
def D__law_is_vow : He.DefD := ⟨("_law_is_vow", none), "_law_is_vow", "_law_is_vow", defArgs (topS 53), defBody (topS 53), defScope (topS 53), [], []⟩
def D__law_broken : He.DefD := ⟨("_law_broken", none), "_law_broken", "_law_broken", defArgs (topS 54), defBody (topS 54), defScope (topS 54), [], []⟩
def D__law_odd : He.DefD := ⟨("_law_odd", none), "_law_odd", "_law_odd", defArgs (topS 55), defBody (topS 55), defScope (topS 55), [], []⟩
def D_law : He.DefD := ⟨("law", none), "law", "law", defArgs (topS 56), defBody (topS 56), defScope (topS 56), [], []⟩
def fnL : List He.DefD := [D__law_begun, D__law_mixed, D__law_take, D__law_pick, D__law_names, D__law_some, D_is_number, D_is_number_in, D_is_list, D_is_name, D_are_lengths, D_is_kind, D_are_kinds, D_is_order, D_Book___init__, D_Book_parts_told, D_Book_with_part, D_Book_first_at, D_Book_due_at, D_Book_month_at, D_need_book, D_need_number, D_days_at, D_round_of, D_next_day, D_is_promise, D_breaker, D__law_model, D__law_made, D__law_first, D__law_month, D__law_due, D__law_can_stand, D__law_is_vow, D__law_broken, D__law_odd, D_law]
def faL : List He.Fa := ([.glo "_law_begun", .glo "_law_mixed", .glo "_law_take", .glo "_law_pick", .glo "_law_names", .glo "_law_some", .glo "is_number", .glo "is_number_in", .glo "is_list", .glo "is_name", .glo "are_lengths", .glo "is_kind", .glo "are_kinds", .glo "is_order", .glo "need_book", .glo "need_number", .glo "days_at", .glo "round_of", .glo "next_day", .glo "is_promise", .glo "breaker", .glo "_law_model", .glo "_law_made", .glo "_law_first", .glo "_law_month", .glo "_law_due", .glo "_law_can_stand", .glo "_law_is_vow", .glo "_law_broken", .glo "_law_odd"] : List He.Fa) ++ ([.glo "law", .glo "CreditError", .glo "BadBook", .glo "BadPart", .glo "BadNumber", .glo "BadPromise", .glo "Book", .free "all", .free "bool", .free "dict", .free "enumerate", .free "int", .free "isinstance", .free "len", .free "list", .free "max", .free "min", .free "range", .free "repr", .free "sorted", .free "str", .free "sum", .free "super", .free "tuple", .free "zip", .str "DAY" "day", .str "EACH" "each", .str "LETTERS" "abcdefghijklmnopqrstuvwxyz", .int "LONGEST" 31, .int "MOST_DAY" 2000] : List He.Fa) ++ ([.int "MOST_DAYS" 100, .int "MOST_KINDS" 6, .int "MOST_LENGTHS" 4, .int "MOST_MEMORY" 2, .int "MOST_NAME" 8, .int "MOST_RATE" 1000, .glo "PARTS", .int "SHORTEST" 2, .str "SOME" "some", .str "STATEMENT" "statement", .cls "Book", .mkr "Book", .noat "Book" "b_lengths", .noat "Book" "b_due", .noat "Book" "b_kinds", .noat "Book" "b_memory", .noat "Book" "b_begins", .noat "Book" "b_laid", .meth "Book" "parts_told", .meth "Book" "with_part", .meth "Book" "first_at", .meth "Book" "due_at", .meth "Book" "month_at"] : List He.Fa)
def exB (K : PySem.W.Frag) : Bool := insB K (He.ga K "Book") && He.tupB K "PARTS" [.str "lengths", .str "due", .str "kinds", .str "memory", .str "begins", .str "laid"]
abbrev Rw : PySem.W.OpenRow := PySem.W.OpenLaw.row PySem.Challenge.rw_wholepaid_k31_promises_kept_or_broken
def G_Book_lengths : GetD := ⟨"Book", "lengths", "Book.lengths", defArgs (inClass (topS 29) 1), defBody (inClass (topS 29) 1), defScope (inClass (topS 29) 1)⟩
def gsL : List GetD := [G_Book_lengths]
abbrev hkL : PySem.W.Hook := hookY 6 faL fnL gsL exB
def obL (s : PySem.W.SharedT) : AlY := obsY 6 faL fnL gsL exB (HandSHeadRun.getT s)
theorem obL_eq (s : PySem.W.SharedT) : obL s = hkL.obs s.abs := obsY_eq (HandSHeadRun.getT_eq s)
def looseL : List Str := (["_wall", "CreditError", "BadBook", "BadPart", "BadNumber", "BadPromise", "LETTERS", "MOST_NAME", "MOST_KINDS", "MOST_RATE", "MOST_LENGTHS", "SHORTEST", "LONGEST", "MOST_MEMORY", "MOST_DAY", "DAY", "STATEMENT", "PARTS", "is_number", "is_number_in", "is_list", "is_name", "are_lengths", "is_kind", "are_kinds", "is_order", "need_number", "Book", "need_book", "EACH"] : List Str) ++ (["SOME", "MOST_DAYS", "days_at", "round_of", "next_day", "is_promise", "breaker", "_law_begun", "_law_mixed", "_law_take", "_law_pick", "_law_some", "_law_names", "_law_model", "_law_made", "_law_first", "_law_month", "_law_due", "_law_can_stand", "_law_is_vow", "_law_broken", "_law_odd"] : List Str)
theorem runL (w : World) : HandSHeadRun.RunEq Rw (PySem.W.view Rw.prog [56]) hkL obL 12000 looseL w := by
  intro os
  kernel_rfl

end Wp
set_option Elab.async false
set_option linter.all false
set_option maxRecDepth 100000
set_option maxHeartbeats 4000000
namespace Wp
open PySem PySem.Spec PyProof.Rows L2
abbrev s__law_begun : Stmt := topS 41
abbrev s__law_mixed : Stmt := topS 42
abbrev s__law_take : Stmt := topS 43
abbrev s__law_pick : Stmt := topS 44

/-! ### the source of draws: a dict of four entries -/
def dkv (l c : Addr) (r t : Int) : List (Key × V) :=
  [(Sum.inr ("large" : Str), .ref l), (Sum.inr ("cells" : Str), .ref c), (Sum.inr ("rest" : Str), .int r), (Sum.inr ("turn" : Str), .int t)]
theorem k13 : ¬ (Sum.inr ("large" : Str) : Key) = Sum.inr ("cells" : Str) := by decide +kernel
theorem k12 : ¬ (Sum.inr ("large" : Str) : Key) = Sum.inr ("rest" : Str) := by decide +kernel
theorem k22 : ¬ (Sum.inr ("cells" : Str) : Key) = Sum.inr ("rest" : Str) := by decide +kernel
theorem k32 : ¬ (Sum.inr ("turn" : Str) : Key) = Sum.inr ("rest" : Str) := by decide +kernel
theorem k14 : ¬ (Sum.inr ("large" : Str) : Key) = Sum.inr ("turn" : Str) := by decide +kernel
theorem k24 : ¬ (Sum.inr ("cells" : Str) : Key) = Sum.inr ("turn" : Str) := by decide +kernel
theorem k34 : ¬ (Sum.inr ("rest" : Str) : Key) = Sum.inr ("turn" : Str) := by decide +kernel
section
variable {l c : Addr} {r t r' t' : Int}
theorem dkv_nd : ((dkv l c r t).map (·.1)).Nodup := (by decide +kernel : ([Sum.inr ("large" : Str), Sum.inr ("cells" : Str), Sum.inr ("rest" : Str), Sum.inr ("turn" : Str)] : List Key).Nodup)
theorem v_large : valV (dkv l c r t) (Sum.inr ("large" : Str)) = some (.ref l) := valV_pos rfl
theorem v_cells : valV (dkv l c r t) (Sum.inr ("cells" : Str)) = some (.ref c) := by
  unfold dkv
  rw [valV_neg k13, valV_pos rfl]
theorem v_rest : valV (dkv l c r t) (Sum.inr ("rest" : Str)) = some (.int r) := by
  unfold dkv
  rw [valV_neg k12, valV_neg k22, valV_pos rfl]
theorem v_turn : valV (dkv l c r t) (Sum.inr ("turn" : Str)) = some (.int t) := by
  unfold dkv
  rw [valV_neg k14, valV_neg k24, valV_neg k34, valV_pos rfl]
theorem p_rest : putK (dkv l c r t) (Sum.inr ("rest" : Str)) (.int r') = dkv l c r' t := by
  have a : ((dkv l c r t).any fun kv => decide (kv.1 = Sum.inr ("rest" : Str))) = true := by
    rw [valV_any, v_rest] <;> rfl
  unfold putK
  rw [if_pos a]
  simp only [dkv, List.map_cons, List.map_nil, if_neg k12, if_neg k22, if_neg k32, if_pos trivial]
theorem p_turn : putK (dkv l c r t) (Sum.inr ("turn" : Str)) (.int t') = dkv l c r t' := by
  have a : ((dkv l c r t).any fun kv => decide (kv.1 = Sum.inr ("turn" : Str))) = true := by
    rw [valV_any, v_turn] <;> rfl
  unfold putK
  rw [if_pos a]
  simp only [dkv, List.map_cons, List.map_nil, if_neg k14, if_neg k24, if_neg k34, if_pos trivial]
end

/-- the source of draws stands at st: its large cells at l, the script's copy at c -/
structure DS (st l c : Addr) (cs : List Int) (B : Int) (H : Hp) : Prop where
  d : ∃ r t, 0 ≤ r ∧ 0 ≤ t ∧ t ≤ B ∧ H st = some (.dK (dkv l c r t))
  lg : ∃ zs : List Int, (∀ z ∈ zs, 0 ≤ z) ∧ H l = some (.lst (zs.map V.int))
  cl : H c = some (.lst (cs.map V.int))
  n1 : c ≠ l
theorem DS.ne {st l c : Addr} {cs : List Int} {B : Int} {H : Hp} (D : DS st l c cs B H) : c ≠ st ∧ l ≠ st := by
  obtain ⟨r, t, _, _, _, h⟩ := D.d
  obtain ⟨zs, _, h2⟩ := D.lg
  exact ⟨ne_of D.cl h (by intro z; cases z), ne_of h2 h (by intro z; cases z)⟩
/-- all but the source of draws is as it was -/
def Kp (st l : Addr) (H H' : Hp) : Prop := ∀ b o, H b = some o → b ≠ st → b ≠ l → H' b = some o
theorem Kp.refl {st l : Addr} {H : Hp} : Kp st l H H := fun _ _ h _ _ => h
theorem Kp.trans {st l : Addr} {H H1 H2 : Hp} (a : Kp st l H H1) (b : Kp st l H1 H2) : Kp st l H H2 :=
  fun x o h n1 n2 => b x o (a x o h n1 n2) n1 n2
theorem Kp.of {st l : Addr} {H H' : Hp} (a : Same H H') : Kp st l H H' := fun x o h _ _ => a x o h
theorem DS.keep {st l c : Addr} {cs : List Int} {B : Int} {H H' : Hp} (D : DS st l c cs B H) (e : Same H H') : DS st l c cs B H' := by
  obtain ⟨⟨r, t, hr, h0, h1, h⟩, ⟨zs, hz, h2⟩, h3, n⟩ := D
  exact ⟨⟨r, t, hr, h0, h1, e _ _ h⟩, ⟨zs, hz, e _ _ h2⟩, e _ _ h3, n⟩
theorem DS.mono {st l c : Addr} {cs : List Int} {B B' : Int} {H : Hp} (D : DS st l c cs B H) (h : B ≤ B') : DS st l c cs B' H := by
  obtain ⟨⟨r, t, hr, h0, h1, h⟩, h2, h3, n⟩ := D
  exact ⟨⟨r, t, hr, h0, by omega, h⟩, h2, h3, n⟩

def sp_mixed : Sp := fun vs H Q _ => ∃ (st l c : Addr) (cs : List Int) (B : Int), vs = [.ref st] ∧ B ≤ 35184372088832 ∧ DS st l c cs B H ∧
  ∀ (k : Int) (H' : Hp), 0 ≤ k → DS st l c cs (B + 1) H' → Kp st l H H' → Q (.int k) H'
def sp_take : Sp := fun vs H Q _ => ∃ (st l c : Addr) (cs : List Int) (B n : Int), vs = [.ref st, .int n] ∧ 0 < n ∧ n < 1073741824 ∧ B ≤ 35184372088832 ∧ DS st l c cs B H ∧
  ∀ (k : Int) (H' : Hp), 0 ≤ k → k < n → DS st l c cs (B + 1) H' → Kp st l H H' → Q (.int k) H'
/-- pick: an item of a list -/
def sp_pick : Sp := fun vs H Q _ => ∃ (st l c p : Addr) (cs : List Int) (B : Int) (xs : List V), vs = [.ref st, .ref p] ∧ B ≤ 35184372088832 ∧ DS st l c cs B H ∧ H p = some (.lst xs) ∧ xs ≠ [] ∧ xs.length < 1000000 ∧ p ≠ l ∧
  ∀ (i : Nat) (x : V) (H' : Hp), xs[i]? = some x → DS st l c cs (B + 1) H' → Kp st l H H' → Q x H'
def sp_begun (K : PySem.W.Frag) : Sp := fun vs H Q _ => ∃ (a : Addr) (cs : List Int), vs = [.ref a] ∧ SqL K H a (cs.map V.int) ∧ cs.length ≤ 63 ∧
  ∀ (st l c : Addr) (H' : Hp), H st = none → H l = none → H c = none → Same H H' → DS st l c cs 0 H' → Q (.ref st) H'

structure Tx (K : PySem.W.Frag) (mg : Str → Option Value) : Prop where
  b_all : mg "all" = none
  b_bool : mg "bool" = none
  b_dict : mg "dict" = none
  b_enumerate : mg "enumerate" = none
  b_int : mg "int" = none
  b_isinstance : mg "isinstance" = none
  b_len : mg "len" = none
  b_list : mg "list" = none
  b_max : mg "max" = none
  b_min : mg "min" = none
  b_range : mg "range" = none
  b_repr : mg "repr" = none
  b_sorted : mg "sorted" = none
  b_str : mg "str" = none
  b_sum : mg "sum" = none
  b_super : mg "super" = none
  b_tuple : mg "tuple" = none
  b_zip : mg "zip" = none
  c_DAY : ∃ t, mg "DAY" = some (.str "day" t)
  c_EACH : ∃ t, mg "EACH" = some (.str "each" t)
  c_LETTERS : ∃ t, mg "LETTERS" = some (.str "abcdefghijklmnopqrstuvwxyz" t)
  c_LONGEST : ∃ t, mg "LONGEST" = some (.int 31 t)
  c_MOST_DAY : ∃ t, mg "MOST_DAY" = some (.int 2000 t)
  c_MOST_DAYS : ∃ t, mg "MOST_DAYS" = some (.int 100 t)
  c_MOST_KINDS : ∃ t, mg "MOST_KINDS" = some (.int 6 t)
  c_MOST_LENGTHS : ∃ t, mg "MOST_LENGTHS" = some (.int 4 t)
  c_MOST_MEMORY : ∃ t, mg "MOST_MEMORY" = some (.int 2 t)
  c_MOST_NAME : ∃ t, mg "MOST_NAME" = some (.int 8 t)
  c_MOST_RATE : ∃ t, mg "MOST_RATE" = some (.int 1000 t)
  g_PARTS : mg "PARTS" = some (.ref (He.ga K "PARTS"))
  t_PARTS : ∀ H : Hp, SqT K H (He.ga K "PARTS") [.str "lengths", .str "due", .str "kinds", .str "memory", .str "begins", .str "laid"]
  c_SHORTEST : ∃ t, mg "SHORTEST" = some (.int 2 t)
  c_SOME : ∃ t, mg "SOME" = some (.str "some" t)
  c_STATEMENT : ∃ t, mg "STATEMENT" = some (.str "statement" t)
  g_CreditError : mg "CreditError" = some (.ref (He.ga K "CreditError"))
  g_BadBook : mg "BadBook" = some (.ref (He.ga K "BadBook"))
  g_BadPart : mg "BadPart" = some (.ref (He.ga K "BadPart"))
  g_BadNumber : mg "BadNumber" = some (.ref (He.ga K "BadNumber"))
  g_BadPromise : mg "BadPromise" = some (.ref (He.ga K "BadPromise"))
  g_Book : mg "Book" = some (.ref (He.ga K "Book"))

local macro_rules | `(tactic| walk_at "val") => `(tactic| assumption)
local macro_rules | `(tactic| walk_at "rd1") => `(tactic| first
  | with_reducible refine r_seq ?_ | with_reducible refine r_next ?_ | with_reducible refine r_if ?_ | with_reducible refine r_asg ?_ | with_reducible refine r_gname ?_
  | with_reducible refine r_ret ?_ | with_reducible refine r_retN ?_ | with_reducible refine r_drop ?_ | with_reducible refine r_par ?_ | with_reducible refine r_kPar ?_
  | ((with_reducible refine' r_var ?hv ?_); (case hv => exact rfl)) | with_reducible refine r_c ?_ | with_reducible refine r_nil ?_ | with_reducible refine r_cons ?_
  | with_reducible refine r_fn ?_ | with_reducible refine r_cb ?_ | with_reducible refine r_op ?_ | with_reducible refine r_un ?_ | with_reducible refine r_I0 ?_
  | with_reducible refine r_pow5 ?_ | with_reducible refine r_pow6 ?_ | with_reducible refine r_pow7 ?_ | with_reducible refine r_pow9 ?_ | with_reducible refine r_pow18 ?_ | with_reducible refine r_pow20 ?_ | with_reducible refine r_pow30 ?_
  | with_reducible refine r_isN_non ?_ | with_reducible refine r_isN_ref ?_ | with_reducible refine r_isN_int ?_ | with_reducible refine r_isN_str ?_ | with_reducible refine r_isN_bl ?_ | with_reducible refine r_notN_non ?_ | with_reducible refine r_notN_ref ?_ | with_reducible refine r_notN_int ?_ | with_reducible refine r_notN_str ?_ | with_reducible refine r_notN_bl ?_
  | ((with_reducible refine r_I ?hc ?_); (case hc => walk_at "side")) | with_reducible refine r_U ?_
  | with_reducible refine r_eqI ?_ | with_reducible refine r_neI ?_ | with_reducible refine r_eqS ?_ | with_reducible refine r_neS ?_ | with_reducible refine r_eqB ?_ | with_reducible refine r_neB ?_
  | with_reducible refine r_chain ?_ | with_reducible refine r_test ?_ | with_reducible refine r_tB ?_ | with_reducible refine r_kTest ?_ | with_reducible refine r_not ?_
  | with_reducible refine r_and ?_ | with_reducible refine r_or ?_ | with_reducible refine r_tif ?_ | with_reducible refine r_andV ?_ | with_reducible refine r_orV ?_ | with_reducible refine r_notV ?_
  | with_reducible refine r_kAndV ?_ | with_reducible refine r_kOrV ?_ | with_reducible refine r_kNotV ?_
  | with_reducible refine w_T ?_ | with_reducible refine w_F ?_ | with_reducible refine w_NT ?_ | with_reducible refine w_NF ?_
  | with_reducible refine r_tup ?_ | with_reducible refine r_lst ?_ | with_reducible refine r_fld ?_ | with_reducible refine r_prop ?_ | ((with_reducible refine' r_aug ?h1 ?_); (case h1 => exact rfl)) | with_reducible refine r_ipI ?_ | with_reducible refine r_dget ?_ | with_reducible refine r_dput ?_ | with_reducible refine r_bm ?_
  | ((with_reducible refine' r_kDGetS ?h1 ?h2 ?_); (case h1 => assumption); (case h2 => walk_at "val"))
  | ((with_reducible refine' r_kBML ?h1 ?_); (case h1 => assumption))
  | with_reducible refine r_forL ?_ | with_reducible refine r_forR1 ?_ | with_reducible refine r_forR2 ?_ | with_reducible refine r_forT ?_ | with_reducible refine r_lcL ?_ | with_reducible refine r_lcR1 ?_
  | ((with_reducible refine r_kLcG ?hw ?_); (case hw => exact rfl)) | with_reducible refine r_kLcT ?_ | with_reducible refine r_yes ?_
  | with_reducible refine r_pnil ?_ | with_reducible refine r_pcons ?_
  | with_reducible refine r_fnK ?_ | ((with_reducible refine r_kFnK ?hl ?_); (case hl => exact rfl))
  | with_reducible refine r_isi_ii ?_ | with_reducible refine r_isi_ib ?_ | with_reducible refine r_isi_bi ?_ | with_reducible refine r_isi_bb ?_ | with_reducible refine r_isi_ss ?_ | with_reducible refine r_isi_is ?_ | with_reducible refine r_isi_it ?_
  | ((with_reducible refine' r_isi_tt ?h1 ?_); (case h1 => assumption))
  | with_reducible refine r_sfld ?_ | with_reducible refine r_gnil ?_ | with_reducible refine r_gcons ?_
  | ((with_reducible refine' r_gtup ?h1 ?h2 ?_); (case h1 => exact SqT.of (by assumption)); (case h2 => exact rfl))
  | with_reducible refine r_sl ?_ | with_reducible refine r_noPart ?_ | with_reducible refine r_part ?_ | with_reducible refine r_kPart ?_ | with_reducible refine r_m1 ?_ | with_reducible refine r_kM1 ?_ | with_reducible refine r_forS ?_ | with_reducible refine r_lcS ?_ | with_reducible refine r_lcTu ?_ | with_reducible refine r_lcK ?_ | with_reducible refine r_dcL ?_ | with_reducible refine r_dcK ?_ | with_reducible refine r_lc2L ?_ | with_reducible refine r_kLc2TL ?_ | with_reducible refine r_dcEn ?_ | with_reducible refine r_gslc ?_ | with_reducible refine r_lcEn ?_ | with_reducible refine r_lcEl ?_ | with_reducible refine r_lcR2 ?_ | with_reducible refine r_rg1 ?_ | with_reducible refine r_forET ?_ | with_reducible refine r_lenD ?_
  | ((with_reducible refine r_kDcG ?hw ?_); (case hw => exact rfl)) | with_reducible refine r_kDcT ?_
  | with_reducible refine r_fldaug ?_ | with_reducible refine r_daug ?_ | with_reducible refine r_rAdd ?_ | with_reducible refine r_rSub ?_ | with_reducible refine r_ddel ?_ | with_reducible refine r_bmF ?_ | with_reducible refine r_dget2 ?_ | with_reducible refine r_listItems ?_ | with_reducible refine r_bm0 ?_ | with_reducible refine r_lc2E ?_ | ((with_reducible refine r_kLc2G ?hw ?_); (case hw => exact rfl)) | with_reducible refine r_kLc2T ?_ | with_reducible refine r_forE ?_ | with_reducible refine r_orT ?_ | with_reducible refine r_din ?_ | with_reducible refine r_augS ?_ | with_reducible refine r_dnotin ?_ | with_reducible refine r_lcIT ?_ | with_reducible refine r_cont ?_ | with_reducible refine r_meth ?_ | with_reducible refine r_frz ?_ | with_reducible refine r_par3 ?_ | with_reducible refine r_kPar3 ?_ | with_reducible refine r_dz ?_ | with_reducible refine r_revL ?_ | with_reducible refine r_star ?_ | with_reducible refine r_int1 ?_ | with_reducible refine r_int1b ?_ | with_reducible refine r_min2 ?_ | with_reducible refine r_max2 ?_ | with_reducible refine r_gsub ?_)
local macro_rules | `(tactic| walk_at "rd") => `(tactic| repeat walk_at "rd1")
local macro_rules | `(tactic| walk_at "side") => `(tactic| first | assumption | exact Or.inr ⟨by decide, by decide⟩ | exact Or.inl ⟨by decide, by decide⟩ | (constructor <;> omega) | omega | decide | (refine Or.inl ⟨?_, ?_⟩ <;> omega) | (refine Or.inr ⟨?_, ?_⟩ <;> omega) | (refine ⟨?_, ?_, ?_⟩ <;> first | decide | omega))
local macro_rules | `(tactic| walk_at "val") => `(tactic| first | exact v_rest | exact v_turn | exact v_large | exact v_cells)
section
variable {P : Program} {w : World} {K : PySem.W.Frag} {mg : Str → Option Value} {base : Heap}
theorem primes_mem {x : V} (h : x ∈ [V.int 2147483629, V.int 2147483587, V.int 2147483579, V.int 2147483563, V.int 2147483549, V.int 2147483543]) : ∃ q : Int, x = .int q ∧ 2000000000 < q ∧ q < 2147483648 := by
  simp only [List.mem_cons, List.not_mem_nil, or_false] at h
  rcases h with h | h | h | h | h | h <;> exact ⟨_, h, by decide, by decide⟩
theorem ints_get {xs : List Int} {i : Nat} {x : V} (h : (xs.map V.int)[i]? = some x) : ∃ z, x = .int z ∧ xs[i]? = some z := by
  rw [List.getElem?_map] at h
  cases e : xs[i]? with
  | none => rw [e] at h; cases h
  | some z => rw [e] at h; exact ⟨z, (Option.some.inj h).symm, rfl⟩
theorem ok__law_mixed {f : Addr} {fd : FuncData} (T : Tx K mg) (F : FnP K "_law_mixed" s__law_mixed f fd) :
    FnOk P w K mg base CX0 1 f fd ["_law_state"] sp_mixed := by
  have sc : FnScope ["_law_state", "_law_found", "_law_prime", "_law_blend", "_law_cell"] ["_law_state"] (defScope s__law_mixed) := ⟨rfl, rfl, rfl, by decide +kernel, rfl, by decide +kernel, by decide +kernel⟩
  refine F.ok sc (by rintro vs H Q E ⟨_, _, _, _, _, rfl, _⟩; rfl) (fun cdv A outer s H vs Q E hr h => ⟨_, PSs.nox ((pss_cons (ps_dput (hu_of hr) (pv 0) pe_str (pe_op op_add (pe_dget (hu_of hr) (pv 0) pe_str (fun _ _ => rfl)) pe_int) rfl)
      (pss_cons (ps_set (i := 1) sc.nd rfl (by first | exact Or.inl rfl | exact Or.inr rfl) pe_int)
      (pss_cons (ps_for PassesOwn.never rfl (pi_listK (K := K) rfl (pe_lst (pa_cons pe_int (pa_cons pe_int (pa_cons pe_int (pa_cons pe_int (pa_cons pe_int (pa_cons pe_int pa_nil)))))))) (pg_name (i := 2) sc.nd rfl (by first | exact Or.inl rfl | exact Or.inr rfl)) (pss_cons (ps_set (i := 3) sc.nd rfl (by first | exact Or.inl rfl | exact Or.inr rfl) (pe_op op_add (pe_op op_mul pe_int (pe_dget (hu_of hr) (pv 0) pe_str (fun _ _ => rfl))) (pe_op op_fdiv (pv 2) pe_int)))
      (pss_cons (ps_for PassesOwn.never rfl (pi_listK (K := K) rfl (pe_dget (hu_of hr) (pv 0) pe_str (fun _ _ => rfl))) (pg_name (i := 4) sc.nd rfl (by first | exact Or.inl rfl | exact Or.inr rfl)) (pss_one (ps_set (i := 3) sc.nd rfl (by first | exact Or.inl rfl | exact Or.inr rfl) (pe_op op_mod (pe_callTy c_int1 (by rfl) T.b_int (by decide +kernel) (pa_cons (pe_op op_add (pe_op op_mul (pv 3) pe_int) (pv 4)) pa_nil)) (pv 2)))))
      (pss_one (ps_set (i := 1) sc.nd rfl (by first | exact Or.inl rfl | exact Or.inr rfl) (pe_op op_add (pe_op op_mul (pv 1) pe_int) (pe_op op_mod (pe_callTy c_int1 (by rfl) T.b_int (by decide +kernel) (pa_cons (pe_op op_pow (pv 3) pe_int) pa_nil)) (pv 2))))))))
      (pss_one (ps_ret (pv 1))))))), ?_⟩)
  obtain ⟨st, l, c, cs, B, rfl, hB, D, k⟩ := h
  obtain ⟨⟨r, t, hr0, ht0, htB, hd⟩, ⟨zs, hz, hl⟩, hc, n1⟩ := id D
  obtain ⟨n2, n3⟩ := D.ne
  walk_at "rd"
  refine r_kDPutS hd (show 4 < 1000000 by decide) fun H1 b1 hd1 => ?_
  rw [p_turn] at hd1
  have hc1 := b1 _ _ hc n2
  walk_at "rd"
  refine r_kLst fun p H2 np e2 hp => ?_
  replace hd1 := e2 _ _ hd1
  replace hc1 := e2 _ _ hc1
  refine r_kForL (xs := [V.int 2147483629, V.int 2147483587, V.int 2147483579, V.int 2147483563, V.int 2147483549, V.int 2147483543])
    (fun _ σ' H' => H2 = H' ∧ ∃ (z : Int) (x y u : Option V), σ' = [some (.ref st), some (.int z), x, y, u] ∧ 0 ≤ z) (SqL.of hp) ⟨rfl, _, _, _, _, rfl, Int.le_refl 0⟩ (fun _ σ' H' ⟨e, _⟩ => by rw [← e]; exact SqL.of hp) ?_ ?_
  · rintro i x σ' H' hx ⟨rfl, z, x2, x3, x4, rfl, hz0⟩
    obtain ⟨q, rfl, hq1, hq2⟩ := primes_mem (List.mem_of_getElem? hx)
    walk_at "rd"
    refine r_kForL (xs := cs.map V.int) (fun _ σ' H' => H2 = H' ∧ ∃ (y : Int) (u : Option V), σ' = [some (.ref st), some (.int z), some (.int q), some (.int y), u] ∧ -18446744073709551616 < y ∧ y < 18446744073709551616)
      (SqL.of hc1) ⟨rfl, _, _, rfl, by omega, by omega⟩ (fun _ σ' H' ⟨e, _⟩ => by rw [← e]; exact SqL.of hc1) ?_ ?_
    · rintro j x σ' H' hx ⟨rfl, y, u, rfl, hy1, hy2⟩
      obtain ⟨z', rfl, _⟩ := ints_get hx
      walk_at "rd"
      have h1 := Int.emod_nonneg (y * 48271 + z') (b := q) (by omega)
      have h2 := Int.emod_lt_of_pos (y * 48271 + z') (b := q) (by omega)
      exact ⟨rfl, _, _, rfl, by omega, by omega⟩
    · rintro σ' H' ⟨rfl, y, u, rfl, hy1, hy2⟩
      walk_at "rd"
      have h1 := Int.emod_nonneg (y ^ (5 : Int).toNat) (b := q) (by omega)
      exact ⟨rfl, _, _, _, _, rfl, by omega⟩
  · rintro σ' H' ⟨rfl, z, x2, x3, x4, rfl, hz0⟩
    walk_at "rd"
    refine k z H2 hz0 ⟨⟨r, t + 1, hr0, by omega, by omega, hd1⟩, ⟨zs, hz, e2 _ _ (b1 _ _ hl n3)⟩, hc1, n1⟩ fun b o hb m1 m2 => e2 _ _ (b1 _ _ hb m1)
theorem ok__law_take {f : Addr} {fd : FuncData} (T : Tx K mg) (F : FnP K "_law_take" s__law_take f fd)
    (d__law_mixed : Dn P w K mg base CX0 1 "_law_mixed" ["_law_state"] sp_mixed) :
    FnOk P w K mg base CX0 2 f fd ["_law_state", "_law_size"] sp_take := by
  have sc : FnScope ["_law_state", "_law_size", "_law_found"] ["_law_state", "_law_size"] (defScope s__law_take) := ⟨rfl, rfl, rfl, by decide +kernel, rfl, by decide +kernel, by decide +kernel⟩
  refine F.ok sc (by rintro vs H Q E ⟨_, _, _, _, _, _, rfl, _⟩; rfl) (fun cdv A outer s H vs Q E hr h => ⟨_, PSs.nox ((Evl.pss_cut (ps_if (pt_cmpR op_eq (pe_dget (hu_of hr) (pv 0) pe_str (fun _ _ => rfl)) pe_int (nomark _)) (pss_one (ps_dput (hu_of hr) (pv 0) pe_str (pe_ifExp (pt_cmpR (neDK (K := K) rfl hr.units) (pe_dget (hu_of hr) (pv 0) pe_str (fun _ _ => rfl)) (pe_lst pa_nil) (nomark _)) (pe_bmK (K := K) rfl PySem.F.plainAttrs_list PySem.F.slot_list_pop PySem.F.type_list_pop mt_popAt (pe_dget (hu_of hr) (pv 0) pe_str (fun _ _ => rfl)) (pa_cons pe_int pa_nil)) (pe_fn d__law_mixed (hr.mono (by decide)) pass0 (pa_cons (pv 0) pa_nil))) rfl)) pss_nil)
      (pss_cons (ps_set (i := 2) sc.nd rfl (by first | exact Or.inl rfl | exact Or.inr rfl) (pe_op op_mod (pe_callTy c_int1 (by rfl) T.b_int (by decide +kernel) (pa_cons (pe_dget (hu_of hr) (pv 0) pe_str (fun _ _ => rfl)) pa_nil)) (pv 1)))
      (pss_cons (ps_dput (hu_of hr) (pv 0) pe_str (pe_op op_fdiv (pe_dget (hu_of hr) (pv 0) pe_str (fun _ _ => rfl)) (pv 1)) rfl)
      (pss_one (ps_ret (pv 2))))))), ?_⟩)
  obtain ⟨st, l, c, cs, B, n, rfl, hn, hn2, hB, D, k⟩ := h
  refine r_cut (fun σ' H' => σ' = [some (.ref st), some (.int n), none] ∧ DS st l c cs (B + 1) H' ∧ Kp st l H H') ?_ ?_
  · obtain ⟨⟨r, t, hr0, ht0, htB, hd⟩, ⟨zs, hz, hl⟩, hc, n1⟩ := id D
    obtain ⟨n2, n3⟩ := D.ne
    walk_at "rd"
    refine w_dec (fun h0 => ?_) (fun h0 => ?_)
    · walk_at "rd"
      refine r_kLst fun p H1 np e1 hp => ?_
      refine r_neLI (as := zs) (bs := []) (SqL.of (e1 _ _ hl)) (SqL.of hp) ?_
      walk_at "rd"
      replace hd := e1 _ _ hd
      replace hl := e1 _ _ hl
      replace hc := e1 _ _ hc
      refine w_ndec (fun hn => ?_) (fun hn => ?_)
      · cases zs with
        | nil => exact absurd rfl hn
        | cons z zs =>
          walk_at "rd"
          refine r_popAt0 hl fun H2 b2 hl2 => ?_
          walk_at "rd"
          have hd2 := b2 _ _ hd n3.symm
          refine r_kDPutS hd2 (show 4 < 1000000 by decide) fun H3 b3 hd3 => ?_
          rw [p_rest] at hd3
          refine ⟨rfl, ⟨⟨z, t, hz z (List.mem_cons_self ..), ht0, by omega, hd3⟩, ⟨zs, fun y hy => hz y (List.mem_cons_of_mem _ hy), b3 _ _ hl2 n3⟩, b3 _ _ (b2 _ _ hc n1) n2, n1⟩, fun b o hb m1 m2 => b3 _ _ (b2 _ _ (e1 _ _ hb) m2) m1⟩
      · walk_at "rd"
        refine ⟨st, l, c, cs, B, rfl, hB, D.keep e1, fun m H2 hm D2 k2 => ?_⟩
        obtain ⟨⟨r2, t2, hr2, ht2, htB2, hd2⟩, ⟨zs2, hz2, hl2⟩, hc2, _⟩ := id D2
        walk_at "rd"
        refine r_kDPutS hd2 (show 4 < 1000000 by decide) fun H3 b3 hd3 => ?_
        rw [p_rest] at hd3
        exact ⟨rfl, ⟨⟨m, t2, hm, ht2, htB2, hd3⟩, ⟨zs2, hz2, b3 _ _ hl2 n3⟩, b3 _ _ hc2 n2, n1⟩, fun b o hb m1 m2 => b3 _ _ (k2 _ _ (e1 _ _ hb) m1 m2) m1⟩
    · walk_at "rd"
      exact ⟨rfl, D.mono (by omega), Kp.refl⟩
  · rintro σ' H' ⟨rfl, D2, k2⟩
    obtain ⟨⟨r, t, hr0, ht0, htB, hd⟩, ⟨zs, hz, hl⟩, hc, n1⟩ := id D2
    obtain ⟨n2, n3⟩ := D2.ne
    walk_at "rd"
    refine r_kDPutS hd (show 4 < 1000000 by decide) fun H3 b3 hd3 => ?_
    rw [p_rest] at hd3
    walk_at "rd"
    refine k (r % n) H3 (Int.emod_nonneg _ (by omega)) (Int.emod_lt_of_pos _ hn) ⟨⟨_, t, Int.ediv_nonneg hr0 (Int.le_of_lt hn), ht0, htB, hd3⟩, ⟨zs, hz, b3 _ _ hl n3⟩, b3 _ _ hc n2, n1⟩ fun b o hb m1 m2 => b3 _ _ (k2 _ _ hb m1 m2) m1
theorem ok__law_pick {f : Addr} {fd : FuncData} (T : Tx K mg) (F : FnP K "_law_pick" s__law_pick f fd)
    (d__law_take : Dn P w K mg base CX0 2 "_law_take" ["_law_state", "_law_size"] sp_take) :
    FnOk P w K mg base CX0 3 f fd ["_law_state", "_law_some_here"] sp_pick := by
  have sc : FnScope ["_law_state", "_law_some_here"] ["_law_state", "_law_some_here"] (defScope s__law_pick) := ⟨rfl, rfl, rfl, by decide +kernel, rfl, by decide +kernel, by decide +kernel⟩
  refine F.ok sc (by rintro vs H Q E ⟨_, _, _, _, _, _, _, rfl, _⟩; rfl) (fun cdv A outer s H vs Q E hr h => ⟨_, PSs.nox ((pss_one (ps_ret (pe_ix (ix_listK (K := K) rfl) (pv 1) (pe_fn d__law_take (hr.mono (by decide)) pass0 (pa_cons (pv 0) (pa_cons (pe_callB (c_lenK (K := K) rfl) (by rfl) T.b_len (by decide +kernel) (pa_cons (pv 1) pa_nil)) pa_nil))) (fun _ _ => rfl))))), ?_⟩)
  obtain ⟨st, l, c, p, cs, B, xs, rfl, hB, D, hp, hne, hlen, npl, k⟩ := h
  have h0 : 0 < xs.length := List.length_pos_iff.mpr hne
  have npst : p ≠ st := by
    obtain ⟨r, t, _, _, _, h⟩ := D.d
    exact ne_of hp h (by intro z; cases z)
  walk_at "rd"
  refine r_lenL (SqL.of hp) ?_
  walk_at "rd"
  refine ⟨st, l, c, cs, B, _, rfl, by omega, by omega, hB, D, fun m H1 hm hm2 D1 k1 => ?_⟩
  have hi : m.toNat < xs.length := by omega
  refine r_ixL (SqL.of (k1 _ _ hp npst npl)) (at_get (n := m.toNat) (by omega) (List.getElem?_eq_getElem hi)) ?_
  exact k m.toNat _ H1 (List.getElem?_eq_getElem hi) D1 k1
theorem ok__law_begun {f : Addr} {fd : FuncData} (T : Tx K mg) (F : FnP K "_law_begun" s__law_begun f fd) :
    FnOk P w K mg base CX0 1 f fd ["_law_script"] (sp_begun K) := by
  have sc : FnScope ["_law_script", "_law_large", "_law_cell"] ["_law_script"] (defScope s__law_begun) := ⟨rfl, rfl, rfl, by decide +kernel, rfl, by decide +kernel, by decide +kernel⟩
  refine F.ok sc (by rintro vs H Q E ⟨_, _, rfl, _⟩; rfl) (fun cdv A outer s H vs Q E hr h => ⟨_, PSs.nox ((pss_cons (ps_setLc (i := 1) (own := [("_law_cell", 2)]) (by rfl) sc.nd rfl rfl (sw_true rfl rfl rfl (by decide +kernel)) (pi_listK (K := K) rfl (pv 0)) (blkOk_by (own := [("_law_cell", 2)]) (N := ["_law_script", "_law_large", "_law_cell"]) (sc := defScope s__law_begun) (by decide +kernel)) (fun _ _ _ _ _ => (pg_name (i := 2) sc.nd rfl (by first | exact Or.inl rfl | exact Or.inr rfl))) (fun _ _ _ _ _ => (pts_one (pt_cmpR op_ge (pv 2) (pe_op op_pow pe_int pe_int) (nomark _)))) (fun _ _ _ _ _ => (pe_op op_sub (pv 2) (pe_op op_pow pe_int pe_int))))
      (pss_one (ps_ret (pe_disp (pps_cons pe_str (pv 1) (pps_cons pe_str (pe_callTy (c_listK (K := K) rfl) (by rfl) T.b_list (by decide +kernel) (pa_cons (pv 0) pa_nil)) (pps_cons pe_str pe_int (pps_cons pe_str pe_int pps_nil)))) (by rfl) (by rfl) (fun z => by cases z) (by decide)))))), ?_⟩)
  obtain ⟨a, cs, rfl, hS, hlen, k⟩ := h
  walk_at "rd"
  refine r_kLcL (xs := cs.map V.int) (fun Da i H' => Same H H' ∧ ∃ zs : List Int, (∀ z ∈ zs, 0 ≤ z) ∧ zs.length ≤ i ∧ H' Da = some (.lst (zs.map V.int))) hS (fun Da H' hD e h => ⟨e, [], (fun z hz => nomatch hz), Nat.le_refl _, h⟩)
    (fun Da i H' ⟨e, _⟩ => e.seq hS) ?_ ?_
  · rintro Da i x H' hD hx ⟨e, zs, hz, hl, hDa⟩
    obtain ⟨z, rfl, hz2⟩ := ints_get hx
    have hi : i < cs.length := (List.getElem?_eq_some_iff.mp hz2).1
    walk_at "rd"
    refine w_dec (fun h1 => ?_) (fun h1 => ?_)
    · walk_at "rd"
      refine r_kLcE hDa (by rw [List.length_map]; omega) fun H2 b2 h2 => ⟨Same.mut e b2 hD, zs ++ [z - 1000000000000000000], ?_, by rw [List.length_append]; show zs.length + 1 ≤ i + 1; omega, by rw [List.map_append]; exact h2⟩
      intro y hy
      rcases List.mem_append.mp hy with hy | hy
      · exact hz y hy
      · rw [List.mem_singleton.mp hy]
        omega
    · exact ⟨e, zs, hz, by omega, hDa⟩
  · rintro Da H1 hD ⟨e1, zs, hz, hl, hDa⟩
    walk_at "rd"
    refine r_disp fun p H2 np e2 hp => ?_
    walk_at "rd"
    refine r_listL (e2.seq (e1.seq hS)) fun q H3 nq e3 hq => ?_
    walk_at "rd"
    refine r_kDisp (dkv Da q 0 0) (e3 _ _ hp) rfl (show 4 ≤ 15 by decide) dkv_nd fun H4 b4 h4 => ?_
    have hDa3 := e3 _ _ (e2 _ _ hDa)
    have npq : q ≠ p := ne_of hq (e3 _ _ hp) (by intro z; cases z)
    have npD : Da ≠ p := ne_of hDa3 (e3 _ _ hp) (by intro z; cases z)
    have nqD : q ≠ Da := (ne_of_none (e2 _ _ hDa) nq).symm
    have s03 : Same H H3 := (e1.trans e2).trans e3
    have np0 : H p = none := e1.free np
    refine k p Da q H4 np0 hD ((e1.trans e2).free nq) (Same.mut s03 b4 np0) ⟨⟨0, 0, Int.le_refl _, Int.le_refl _, Int.le_refl _, h4⟩, ⟨zs, hz, b4 _ _ hDa3 npD⟩, b4 _ _ hq npq, nqD⟩
end
end Wp
set_option Elab.async false
set_option linter.all false
set_option maxRecDepth 100000
set_option maxHeartbeats 4000000
namespace Wp
open PySem PySem.Spec PyProof.Rows L2
abbrev s_is_number : Stmt := topS 20
abbrev s_is_number_in : Stmt := topS 21
local macro_rules | `(tactic| walk_at "val") => `(tactic| assumption)
local macro_rules | `(tactic| walk_at "rd1") => `(tactic| first
  | with_reducible refine r_seq ?_ | with_reducible refine r_next ?_ | with_reducible refine r_if ?_ | with_reducible refine r_asg ?_ | with_reducible refine r_gname ?_
  | with_reducible refine r_ret ?_ | with_reducible refine r_retN ?_ | with_reducible refine r_drop ?_ | with_reducible refine r_par ?_ | with_reducible refine r_kPar ?_
  | ((with_reducible refine' r_var ?hv ?_); (case hv => exact rfl)) | with_reducible refine r_c ?_ | with_reducible refine r_nil ?_ | with_reducible refine r_cons ?_
  | with_reducible refine r_fn ?_ | with_reducible refine r_cb ?_ | with_reducible refine r_op ?_ | with_reducible refine r_un ?_ | with_reducible refine r_I0 ?_
  | with_reducible refine r_pow5 ?_ | with_reducible refine r_pow6 ?_ | with_reducible refine r_pow7 ?_ | with_reducible refine r_pow9 ?_ | with_reducible refine r_pow18 ?_ | with_reducible refine r_pow20 ?_ | with_reducible refine r_pow30 ?_
  | with_reducible refine r_isN_non ?_ | with_reducible refine r_isN_ref ?_ | with_reducible refine r_isN_int ?_ | with_reducible refine r_isN_str ?_ | with_reducible refine r_isN_bl ?_ | with_reducible refine r_notN_non ?_ | with_reducible refine r_notN_ref ?_ | with_reducible refine r_notN_int ?_ | with_reducible refine r_notN_str ?_ | with_reducible refine r_notN_bl ?_
  | ((with_reducible refine r_I ?hc ?_); (case hc => walk_at "side")) | with_reducible refine r_U ?_
  | with_reducible refine r_eqI ?_ | with_reducible refine r_neI ?_ | with_reducible refine r_eqS ?_ | with_reducible refine r_neS ?_ | with_reducible refine r_eqB ?_ | with_reducible refine r_neB ?_
  | with_reducible refine r_chain ?_ | with_reducible refine r_test ?_ | with_reducible refine r_tB ?_ | with_reducible refine r_kTest ?_ | with_reducible refine r_not ?_
  | with_reducible refine r_and ?_ | with_reducible refine r_or ?_ | with_reducible refine r_tif ?_ | with_reducible refine r_andV ?_ | with_reducible refine r_orV ?_ | with_reducible refine r_notV ?_
  | with_reducible refine r_kAndV ?_ | with_reducible refine r_kOrV ?_ | with_reducible refine r_kNotV ?_
  | with_reducible refine w_T ?_ | with_reducible refine w_F ?_ | with_reducible refine w_NT ?_ | with_reducible refine w_NF ?_
  | with_reducible refine r_tup ?_ | with_reducible refine r_lst ?_ | with_reducible refine r_fld ?_ | with_reducible refine r_prop ?_ | ((with_reducible refine' r_aug ?h1 ?_); (case h1 => exact rfl)) | with_reducible refine r_ipI ?_ | with_reducible refine r_dget ?_ | with_reducible refine r_dput ?_ | with_reducible refine r_bm ?_
  | ((with_reducible refine' r_kDGetS ?h1 ?h2 ?_); (case h1 => assumption); (case h2 => walk_at "val"))
  | ((with_reducible refine' r_kBML ?h1 ?_); (case h1 => assumption))
  | with_reducible refine r_forL ?_ | with_reducible refine r_forR1 ?_ | with_reducible refine r_forR2 ?_ | with_reducible refine r_forT ?_ | with_reducible refine r_lcL ?_ | with_reducible refine r_lcR1 ?_
  | ((with_reducible refine r_kLcG ?hw ?_); (case hw => exact rfl)) | with_reducible refine r_kLcT ?_ | with_reducible refine r_yes ?_
  | with_reducible refine r_pnil ?_ | with_reducible refine r_pcons ?_
  | with_reducible refine r_fnK ?_ | ((with_reducible refine r_kFnK ?hl ?_); (case hl => exact rfl))
  | with_reducible refine r_isi_ii ?_ | with_reducible refine r_isi_ib ?_ | with_reducible refine r_isi_bi ?_ | with_reducible refine r_isi_bb ?_ | with_reducible refine r_isi_ss ?_ | with_reducible refine r_isi_is ?_ | with_reducible refine r_isi_it ?_
  | ((with_reducible refine' r_isi_tt ?h1 ?_); (case h1 => assumption))
  | with_reducible refine r_sfld ?_ | with_reducible refine r_gnil ?_ | with_reducible refine r_gcons ?_
  | ((with_reducible refine' r_gtup ?h1 ?h2 ?_); (case h1 => exact SqT.of (by assumption)); (case h2 => exact rfl))
  | with_reducible refine r_sl ?_ | with_reducible refine r_noPart ?_ | with_reducible refine r_part ?_ | with_reducible refine r_kPart ?_ | with_reducible refine r_m1 ?_ | with_reducible refine r_kM1 ?_ | with_reducible refine r_forS ?_ | with_reducible refine r_lcS ?_ | with_reducible refine r_lcTu ?_ | with_reducible refine r_lcK ?_ | with_reducible refine r_dcL ?_ | with_reducible refine r_dcK ?_ | with_reducible refine r_lc2L ?_ | with_reducible refine r_kLc2TL ?_ | with_reducible refine r_dcEn ?_ | with_reducible refine r_gslc ?_ | with_reducible refine r_lcEn ?_ | with_reducible refine r_lcEl ?_ | with_reducible refine r_lcR2 ?_ | with_reducible refine r_rg1 ?_ | with_reducible refine r_forET ?_ | with_reducible refine r_lenD ?_
  | ((with_reducible refine r_kDcG ?hw ?_); (case hw => exact rfl)) | with_reducible refine r_kDcT ?_
  | with_reducible refine r_fldaug ?_ | with_reducible refine r_daug ?_ | with_reducible refine r_rAdd ?_ | with_reducible refine r_rSub ?_ | with_reducible refine r_ddel ?_ | with_reducible refine r_bmF ?_ | with_reducible refine r_dget2 ?_ | with_reducible refine r_listItems ?_ | with_reducible refine r_bm0 ?_ | with_reducible refine r_lc2E ?_ | ((with_reducible refine r_kLc2G ?hw ?_); (case hw => exact rfl)) | with_reducible refine r_kLc2T ?_ | with_reducible refine r_forE ?_ | with_reducible refine r_orT ?_ | with_reducible refine r_din ?_ | with_reducible refine r_augS ?_ | with_reducible refine r_dnotin ?_ | with_reducible refine r_lcIT ?_ | with_reducible refine r_cont ?_ | with_reducible refine r_meth ?_ | with_reducible refine r_frz ?_ | with_reducible refine r_par3 ?_ | with_reducible refine r_kPar3 ?_ | with_reducible refine r_dz ?_ | with_reducible refine r_revL ?_ | with_reducible refine r_star ?_ | with_reducible refine r_int1 ?_ | with_reducible refine r_int1b ?_ | with_reducible refine r_min2 ?_ | with_reducible refine r_max2 ?_ | with_reducible refine r_gsub ?_)
local macro_rules | `(tactic| walk_at "rd") => `(tactic| repeat walk_at "rd1")
local macro_rules | `(tactic| walk_at "side") => `(tactic| first | assumption | exact Or.inr ⟨by decide, by decide⟩ | exact Or.inl ⟨by decide, by decide⟩ | (constructor <;> omega) | omega | decide | (refine Or.inl ⟨?_, ?_⟩ <;> omega) | (refine Or.inr ⟨?_, ?_⟩ <;> omega) | (refine ⟨?_, ?_, ?_⟩ <;> first | decide | omega))
def sp_is_number (K : PySem.W.Frag) : Sp := fun vs H Q _ => ∃ (x : V) (o : Option Int), vs = [x] ∧ NumV K H x o ∧ Q (.bl o.isSome) H
def sp_is_number_in (K : PySem.W.Frag) : Sp := fun vs H Q _ => ∃ (x : V) (o : Option Int) (lo hi : Int), vs = [x, .int lo, .int hi] ∧ NumV K H x o ∧ Q (.bl (inB o lo hi)) H
theorem u_in {K : PySem.W.Frag} {H : Hp} {Q : VK} {E : XK} {i lo hi : Int} (h : lo ≤ i ∧ i ≤ hi) (q : Q (.bl true) H) : sp_is_number_in K [.int i, .int lo, .int hi] H Q E := ⟨_, _, _, _, rfl, .int i, by rw [inB_yes h]; exact q⟩
section
variable {P : Program} {w : World} {K : PySem.W.Frag} {mg : Str → Option Value} {base : Heap}
theorem ok_is_number {f : Addr} {fd : FuncData} (T : Tx K mg) (F : FnP K "is_number" s_is_number f fd) : FnOk P w K mg base CX0 1 f fd ["value"] (sp_is_number K) := by
  have sc : FnScope ["value"] ["value"] (defScope s_is_number) := ⟨rfl, rfl, rfl, by decide +kernel, rfl, by decide +kernel, by decide +kernel⟩
  refine F.ok sc (by rintro vs H Q E ⟨_, _, rfl, _⟩; rfl) (fun cdv A outer s H vs Q E hr h => ⟨_, PSs.nox ((pss_one (ps_ret (pe_and (pe_callB (c_isiK (K := K) rfl) (by rfl) T.b_isinstance (by decide +kernel) (pa_cons (pv 0) (pa_cons (pe_bltn (v := .ty "int") (by rfl) T.b_int (by decide +kernel) rfl) pa_nil))) (pe_one (pe_not (pe_callB (c_isiK (K := K) rfl) (by rfl) T.b_isinstance (by decide +kernel) (pa_cons (pv 0) (pa_cons (pe_bltn (v := .ty "bool") (by rfl) T.b_bool (by decide +kernel) rfl) pa_nil))))))))), ?_⟩)
  obtain ⟨x, o, rfl, hx, q⟩ := h
  walk_at "rd"
  cases hx with
  | int i =>
    walk_at "rd"
    exact q
  | @no _ t b1 b2 ht h1 h2 h3 =>
    refine r_isi (.ty "int") ht h1 ?_
    walk_at "rd"
    cases b1 with
    | false =>
      walk_at "rd"
      exact q
    | true =>
      walk_at "rd"
      refine r_isi (.ty "bool") ht h2 ?_
      walk_at "rd"
      have e : (!b2) = false := h3
      rw [e]
      exact q
theorem ok_is_number_in {f : Addr} {fd : FuncData} (T : Tx K mg) (F : FnP K "is_number_in" s_is_number_in f fd) (d_is_number : Dn P w K mg base CX0 1 "is_number" ["value"] (sp_is_number K)) :
    FnOk P w K mg base CX0 2 f fd ["value", "least", "most"] (sp_is_number_in K) := by
  have sc : FnScope ["value", "least", "most"] ["value", "least", "most"] (defScope s_is_number_in) := ⟨rfl, rfl, rfl, by decide +kernel, rfl, by decide +kernel, by decide +kernel⟩
  refine F.ok sc (by rintro vs H Q E ⟨_, _, _, _, rfl, _⟩; rfl) (fun cdv A outer s H vs Q E hr h => ⟨_, PSs.nox ((pss_one (ps_ret (pe_and (pe_fn d_is_number (hr.mono (by decide)) pass0 (pa_cons (pv 0) pa_nil)) (pe_one (pe_chain op_le op_le (pv 1) (pv 0) (pv 2))))))), ?_⟩)
  obtain ⟨x, o, lo, hi, rfl, hx, q⟩ := h
  walk_at "rd"
  refine ⟨x, o, rfl, hx, ?_⟩
  walk_at "rd"
  cases hx with
  | int i =>
    refine w_yes rfl ?_
    walk_at "rd"
    refine r_kChain (fun h1 => ?_) (fun h1 => ?_)
    · walk_at "rd"
      have e : inB (some i) lo hi = decide (i ≤ hi) := by
        show (decide (lo ≤ i) && decide (i ≤ hi)) = _
        rw [h1]
        rfl
      rw [← e]
      exact q
    · have e : inB (some i) lo hi = false := by
        show (decide (lo ≤ i) && decide (i ≤ hi)) = _
        rw [h1]
        rfl
      rw [← e]
      exact q
  | no ht h1 h2 h3 =>
    walk_at "rd"
    exact q
end
end Wp
set_option Elab.async false
set_option linter.all false
set_option maxRecDepth 100000
set_option maxHeartbeats 4000000
/-! Readings of texts, slices, dicts, loops over any source. -/
namespace Wp
open PySem PySem.Spec PyProof.Rows L2
section
variable {t u tw : TS} {D : Ends} {σ : L2.St} {H : Hp} {te ta tb tl tk tv td : TE} {tt : TT} {tr : TA} {g : TG} {Q : VK} {v x y : V} {n : Nat} {b : Bool} {K : PySem.W.Frag} {a p q : Addr} {xs ys : List V} {vs : List Nat} {z : Str} {i : Int} {J : It}
/-! slices -/
theorem r_sl {r : V → Option Int → Option Int → Hp → VK → Prop} {tlo thi : TO} (h : te σ H fun x H1 => tlo σ H1 fun l H2 => thi σ H2 fun u H3 => r x l u H3 Q) : tSl r te tlo thi σ H Q := h
theorem r_noPart {QO : Option Int → Hp → Prop} (h : QO none H) : tNoPart σ H QO := h
def kPart (QO : Option Int → Hp → Prop) : VK := fun x H1 => ∃ i, x = .int i ∧ QO (some i) H1
theorem r_part {QO : Option Int → Hp → Prop} (h : te σ H (kPart QO)) : tPart te σ H QO := h
theorem r_kPart {QO : Option Int → Hp → Prop} (h : QO (some i) H) : kPart QO (.int i) H := ⟨i, rfl, h⟩
theorem r_slS {lo hi : Option Int} (hz : z.length ≤ 1000000) (h : Q (.str (cutS z lo hi)) H) : rSlS (.str z) lo hi H Q := ⟨z, rfl, sz5 hz, h⟩
theorem r_slL {lo hi : Option Int} (hl : SqL K H p xs) (h : ∀ q H', H q = none → Same H H' → H' q = some (.lst (cutV xs lo hi)) → Q (.ref q) H') : rSlL K (.ref p) lo hi H Q :=
  ⟨p, xs, rfl, hl, fun q hq => h q _ hq (Same.new hq) upd_same⟩
/-! texts -/
def kM1 (r : V → List V → Hp → VK → Prop) (te : TE) (σ : L2.St) (Q : VK) : VK := fun x H1 => (∃ a, x = .str a) ∧ te σ H1 fun y H2 => r x [y] H2 Q
theorem r_m1 {r : V → List V → Hp → VK → Prop} (h : ta σ H (kM1 r te σ Q)) : tM1 r ta te σ H Q := h
theorem r_kM1 {r : V → List V → Hp → VK → Prop} (h : te σ H fun y H2 => r (.str z) [y] H2 Q) : kM1 r te σ Q (.str z) H := ⟨⟨z, rfl⟩, h⟩
theorem r_ixS {c : Nat} (hz : z.length ≤ 1000000) (e : atI z.cps.toList i = some c) (h : Q (.str ⟨#[c]⟩) H) : rIxS (.str z) (.int i) H Q := ⟨z, i, c, rfl, rfl, sz5 hz, e, h⟩
theorem r_lenS (hz : z.length ≤ 1000000) (h : Q (.int (z.length : Nat)) H) : rLen K [.str z] H Q := ⟨_, _, rfl, ⟨sz5 hz, rfl⟩, h⟩
/-! loops over any source -/
def LoopW (J : It) (g : TG) (tw : TS) (D : Ends) (σ : L2.St) (H1 : Hp) : Prop := ∃ W : Nat → Nat → L2.St → Hp → Prop, (∃ m, W 0 m σ H1) ∧ ∀ i m σ H, W i m σ H →
  (J.stop i H ∧ D.nx σ H) ∨ (J.go i H ∧ ∃ N : L2.St → Hp → Prop, (∀ σ' H', N σ' H' → ∃ m', m' < m ∧ W (i + 1) m' σ' H') ∧ ∀ x H', J.yld i H x H' → g x σ H' fun σ2 H2 => tw { D with nx := N, ct := N, bk := D.nx } σ2 H2)
theorem loop_it (n : Nat) (Pv : Nat → L2.St → Hp → Prop) (h0 : Pv 0 σ H) (hgo : ∀ i σ' H', i < n → Pv i σ' H' → J.go i H') (hst : ∀ σ' H', Pv n σ' H' → J.stop n H')
    (hs : ∀ i x σ' H' H2, i < n → Pv i σ' H' → J.yld i H' x H2 → g x σ' H2 fun σ2 H3 => tw { D with nx := Pv (i + 1), ct := Pv (i + 1), bk := D.nx } σ2 H3)
    (hd : ∀ σ' H', Pv n σ' H' → D.nx σ' H') : LoopW J g tw D σ H := by
  refine ⟨fun i m σ H => m = n - i ∧ i ≤ n ∧ Pv i σ H, ⟨n, by simp, Nat.zero_le _, h0⟩, ?_⟩
  rintro i m σ H ⟨rfl, hi, p⟩
  by_cases hlt : i < n
  · exact .inr ⟨hgo i σ H hlt p, Pv (i + 1), fun σ' H' p' => ⟨n - (i + 1), by omega, rfl, hlt, p'⟩, fun x H' y => hs i x σ H H' hlt p y⟩
  · obtain rfl : i = n := by omega
    exact .inl ⟨hst σ H p, hd σ H p⟩
def LcW (J : It) (g : TG) (tt : TT) (te : TE) (vs : List Nat) (σ : L2.St) (Q : VK) (H1 : Hp) : Prop := ∀ D, H1 D = none → ∃ W : Nat → Nat → Hp → Prop, (∃ m, W 0 m (upd H1 D (.lst []))) ∧ ∀ i m H, W i m H →
  (J.stop i H ∧ Q (.ref D) H) ∨ (J.go i H ∧ ∃ Nx : Hp → Prop, (∀ H', Nx H' → ∃ m', m' < m ∧ W (i + 1) m' H') ∧ ∀ x H', J.yld i H x H' → g x (wipe σ vs) H' fun σ2 H2 => wipe σ2 vs = wipe σ vs ∧ tt σ2 H2 fun b H3 =>
    if b = true then te σ2 H3 fun y H4 => ∃ acc, H4 D = some (.lst acc) ∧ acc.length < sizeLine ∧ Nx (upd H4 D (.lst (acc ++ [y]))) else Nx H3)
theorem lc_it (n : Nat) (Pv : Addr → Nat → Hp → Prop) (h0 : ∀ Da H', H Da = none → Same H H' → H' Da = some (.lst []) → Pv Da 0 H') (hgo : ∀ Da i H', H Da = none → i < n → Pv Da i H' → J.go i H') (hst : ∀ Da H', H Da = none → Pv Da n H' → J.stop n H')
    (hs : ∀ Da i x H' H2, H Da = none → i < n → Pv Da i H' → J.yld i H' x H2 → g x (wipe σ vs) H2 (kLcG tt te vs σ Da Pv i)) (hd : ∀ Da H', H Da = none → Pv Da n H' → Q (.ref Da) H') : LcW J g tt te vs σ Q H := by
  intro Da hD
  refine ⟨fun i m H' => m = n - i ∧ i ≤ n ∧ Pv Da i H', ⟨n, by simp, Nat.zero_le _, h0 Da _ hD (Same.new hD) upd_same⟩, ?_⟩
  rintro i m H' ⟨rfl, hi, p⟩
  by_cases hlt : i < n
  · exact .inr ⟨hgo Da i H' hD hlt p, Pv Da (i + 1), fun H'' p' => ⟨n - (i + 1), by omega, rfl, hlt, p'⟩, fun x H'' y => hs Da i x H' H'' hD hlt p y⟩
  · obtain rfl : i = n := by omega
    exact .inl ⟨hst Da H' hD p, hd Da H' hD p⟩
def DcW (J : It) (g : TG) (tt : TT) (tk tv : TE) (vs : List Nat) (σ : L2.St) (Q : VK) (H1 : Hp) : Prop := ∀ D, H1 D = none → ∃ W : Nat → Nat → Hp → Prop, (∃ m, W 0 m (upd H1 D (.dK []))) ∧ ∀ i m H, W i m H →
  (J.stop i H ∧ Q (.ref D) H) ∨ (J.go i H ∧ ∃ Nx : Hp → Prop, (∀ H', Nx H' → ∃ m', m' < m ∧ W (i + 1) m' H') ∧ ∀ x H', J.yld i H x H' → g x (wipe σ vs) H' fun σ2 H2 => wipe σ2 vs = wipe σ vs ∧ tt σ2 H2 fun b H3 =>
    if b = true then tk σ2 H3 fun y H4 => tv σ2 H4 fun z H5 => ∃ kvs k, y = kV k ∧ H5 D = some (.dK kvs) ∧ kvs.length < sizeLine ∧ Nx (upd H5 D (.dK (putK kvs k z))) else Nx H3)
def kDcE (Da : Addr) (Pv : Addr → Nat → Hp → Prop) (i : Nat) (y : V) : VK := fun z H5 => ∃ kvs k, y = kV k ∧ H5 Da = some (.dK kvs) ∧ kvs.length < sizeLine ∧ Pv Da (i + 1) (upd H5 Da (.dK (putK kvs k z)))
def kDcT (tk tv : TE) (σ2 : L2.St) (Da : Addr) (Pv : Addr → Nat → Hp → Prop) (i : Nat) : Bool → Hp → Prop := fun b H3 => if b = true then tk σ2 H3 fun y H4 => tv σ2 H4 (kDcE Da Pv i y) else Pv Da (i + 1) H3
def kDcG (tt : TT) (tk tv : TE) (vs : List Nat) (σ : L2.St) (Da : Addr) (Pv : Addr → Nat → Hp → Prop) (i : Nat) : L2.St → Hp → Prop := fun σ2 H2 => wipe σ2 vs = wipe σ vs ∧ tt σ2 H2 (kDcT tk tv σ2 Da Pv i)
theorem r_kDcG {Da : Addr} {Pv : Addr → Nat → Hp → Prop} {i : Nat} {σ2 : L2.St} (h : wipe σ2 vs = wipe σ vs) (q : tt σ2 H (kDcT tk tv σ2 Da Pv i)) : kDcG tt tk tv vs σ Da Pv i σ2 H := ⟨h, q⟩
theorem r_kDcT {Da : Addr} {Pv : Addr → Nat → Hp → Prop} {i : Nat} {σ2 : L2.St} (q : if b = true then tk σ2 H fun y H4 => tv σ2 H4 (kDcE Da Pv i y) else Pv Da (i + 1) H) : kDcT tk tv σ2 Da Pv i b H := q
theorem r_kDcE {Da : Addr} {Pv : Addr → Nat → Hp → Prop} {i : Nat} {kvs : List (Key × V)} {kx : Key} {zv : V} (h : H Da = some (.dK kvs)) (hz : kvs.length < 1000000) (q : ∀ H', But Da H H' → H' Da = some (.dK (putK kvs kx zv)) → Pv Da (i + 1) H') : kDcE Da Pv i (kV kx) zv H :=
  ⟨kvs, kx, rfl, h, sz6 hz, q _ But.upd upd_same⟩
theorem dc_it (n : Nat) (Pv : Addr → Nat → Hp → Prop) (h0 : ∀ Da H', H Da = none → Same H H' → H' Da = some (.dK []) → Pv Da 0 H') (hgo : ∀ Da i H', H Da = none → i < n → Pv Da i H' → J.go i H') (hst : ∀ Da H', H Da = none → Pv Da n H' → J.stop n H')
    (hs : ∀ Da i x H' H2, H Da = none → i < n → Pv Da i H' → J.yld i H' x H2 → g x (wipe σ vs) H2 (kDcG tt tk tv vs σ Da Pv i)) (hd : ∀ Da H', H Da = none → Pv Da n H' → Q (.ref Da) H') : DcW J g tt tk tv vs σ Q H := by
  intro Da hD
  refine ⟨fun i m H' => m = n - i ∧ i ≤ n ∧ Pv Da i H', ⟨n, by simp, Nat.zero_le _, h0 Da _ hD (Same.new hD) upd_same⟩, ?_⟩
  rintro i m H' ⟨rfl, hi, p⟩
  by_cases hlt : i < n
  · exact .inr ⟨hgo Da i H' hD hlt p, Pv Da (i + 1), fun H'' p' => ⟨n - (i + 1), by omega, rfl, hlt, p'⟩, fun x H'' y => hs Da i x H' H'' hD hlt p y⟩
  · obtain rfl : i = n := by omega
    exact .inl ⟨hst Da H' hD p, hd Da H' hD p⟩
/-! over a text -/
def kForS (g : TG) (tw : TS) (D : Ends) (σ : L2.St) : VK := fun v H1 => ∃ x, v = .str x ∧ LoopW (Its x) g tw D σ H1
theorem r_forS (h : te σ H (kForS g tw D σ)) : tFor (iStr te) g tw D σ H := h
theorem r_kForS (Pv : Nat → L2.St → Hp → Prop) (h0 : Pv 0 σ H) (hs : ∀ i c σ' H', z.cps[i]? = some c → Pv i σ' H' → g (.str ⟨#[c]⟩) σ' H' fun σ2 H3 => tw { D with nx := Pv (i + 1), ct := Pv (i + 1), bk := D.nx } σ2 H3)
    (hd : ∀ σ' H', Pv z.cps.size σ' H' → D.nx σ' H') : kForS g tw D σ (.str z) H :=
  ⟨z, rfl, loop_it z.cps.size Pv h0 (fun i _ _ hi _ => hi) (fun _ _ _ => Nat.le_refl _) (fun i x σ' H' H2 _ p y => by
    obtain ⟨rfl, c, hc, rfl⟩ := y
    exact hs i c σ' _ hc p) hd⟩
def kLcS (g : TG) (tt : TT) (te : TE) (vs : List Nat) (σ : L2.St) (Q : VK) : VK := fun v H1 => ∃ x, v = .str x ∧ LcW (Its x) g tt te vs σ Q H1
theorem r_lcS (h : ta σ H (kLcS g tt te vs σ Q)) : tLc (iStr ta) g tt te vs σ H Q := h
theorem r_kLcS (Pv : Addr → Nat → Hp → Prop) (h0 : ∀ Da H', H Da = none → Same H H' → H' Da = some (.lst []) → Pv Da 0 H')
    (hs : ∀ Da i c H', H Da = none → z.cps[i]? = some c → Pv Da i H' → g (.str ⟨#[c]⟩) (wipe σ vs) H' (kLcG tt te vs σ Da Pv i)) (hd : ∀ Da H', H Da = none → Pv Da z.cps.size H' → Q (.ref Da) H') : kLcS g tt te vs σ Q (.str z) H :=
  ⟨z, rfl, lc_it z.cps.size Pv h0 (fun _ i _ _ hi _ => hi) (fun _ _ _ _ => Nat.le_refl _) (fun Da i x H' H2 hD _ p y => by
    obtain ⟨rfl, c, hc, rfl⟩ := y
    exact hs Da i c _ hD hc p) hd⟩
/-! over a tuple, in a block -/
def kLcTu (K : PySem.W.Frag) (g : TG) (tt : TT) (te : TE) (vs : List Nat) (σ : L2.St) (Q : VK) : VK := fun x H1 => ∃ a, x = .ref a ∧ (∃ xs, SqT K H1 a xs) ∧ LcW (Itt K a) g tt te vs σ Q H1
theorem r_lcTu (q : tl σ H (kLcTu K g tt te vs σ Q)) : tLc (iTup K tl) g tt te vs σ H Q := q
theorem r_kLcTu (Pv : Addr → Nat → Hp → Prop) (hl : SqT K H a xs) (h0 : ∀ Da H', H Da = none → Same H H' → H' Da = some (.lst []) → Pv Da 0 H') (hk : ∀ Da i H', Pv Da i H' → SqT K H' a xs)
    (hs : ∀ Da i x H', H Da = none → xs[i]? = some x → Pv Da i H' → g x (wipe σ vs) H' (kLcG tt te vs σ Da Pv i)) (hd : ∀ Da H', H Da = none → Pv Da xs.length H' → Q (.ref Da) H') : kLcTu K g tt te vs σ Q (.ref a) H :=
  ⟨a, rfl, ⟨xs, hl⟩, fun Da hD => lc_tup (Pv Da) (h0 Da _ hD (Same.new hD) upd_same) (fun i H' _ p => hk Da i H' p) (fun i x H' hx p => hs Da i x H' hD hx p) (fun H' p => hd Da H' hD p)⟩
end
end Wp
set_option Elab.async false
set_option linter.all false
set_option maxRecDepth 100000
set_option maxHeartbeats 4000000
/-! One rule or another; things locked while they are gone through; sums of tuples. -/
namespace Wp
open PySem PySem.Spec PyProof.Rows L2
/-! ### either -/
def iEither (a b : TI) : TI := fun σ H R => a σ H R ∨ b σ H R
theorem pi_either {X : Cx} {tg l : Expr} {a b : TI} (ha : PI X tg l a) (hb : PI X tg l b) : PI X tg l (iEither a b) :=
  ⟨fun pins s σ H R I h => h.elim (fun h => ha.run pins s σ H R I h) (fun h => hb.run pins s σ H R I h)⟩
def rEither (a b : List V → Hp → VK → Prop) : List V → Hp → VK → Prop := fun xs H Q => a xs H Q ∨ b xs H Q
theorem c_either {X : Cx} {f : Value} {a b : List V → Hp → VK → Prop} (ha : CallR X f a) (hb : CallR X f b) : CallR X f (rEither a b) :=
  fun pins s σ H xs us Q I r h => h.elim (fun h => ha pins s σ H xs us Q I r h) (fun h => hb pins s σ H xs us Q I r h)
/-- code that is not reached -/
theorem pe_dead {X : Cx} {e : Expr} : PE X e (fun _ _ _ => False) := ⟨fun _ _ _ _ _ _ h => h.elim⟩
theorem pt_dead {X : Cx} {e : Expr} : PT X e (fun _ _ _ => False) := ⟨fun _ _ _ _ _ _ h => h.elim⟩
/-- a list or a tuple -/
def SeqV (K : PySem.W.Frag) (H : Hp) (p : Addr) (xs : List V) : Prop := SqL K H p xs ∨ SqT K H p xs
section
variable {K : PySem.W.Frag} {H : Hp} {Q : VK} {p d : Addr} {xs : List V} {σ : L2.St} {g : TG} {tt : TT} {te tk tv ta tl : TE} {vs : List Nat} {i j : Nat}
theorem r_lenSeq (h : SeqV K H p xs) (q : Q (.int (xs.length : Nat)) H) : rLen K [.ref p] H Q := h.elim (fun h => r_lenL h q) (fun h => r_lenT h q)
theorem r_lcEither (hl : SeqV K H p xs) (h : σ[i]? = some (some (.ref p))) (Pv : Addr → Nat → Hp → Prop) (h0 : ∀ Da H', H Da = none → Same H H' → H' Da = some (.lst []) → Pv Da 0 H') (hk : ∀ Da i H', Pv Da i H' → SeqV K H' p xs ∧ Same H H')
    (hs : ∀ Da i x H', H Da = none → xs[i]? = some x → Pv Da i H' → g x (wipe σ vs) H' (kLcG tt te vs σ Da Pv i)) (hd : ∀ Da H', H Da = none → Pv Da xs.length H' → Q (.ref Da) H')
    (keepL : ∀ H', Same H H' → SqL K H p xs → SqL K H' p xs) (keepT : ∀ H', Same H H' → SqT K H p xs → SqT K H' p xs) :
    tLc (iEither (iList K (tVar i)) (iTup K (tVar i))) g tt te vs σ H Q := by
  rcases hl with hl | hl
  · exact .inl (r_lcL (r_var h (r_kLcL Pv hl h0 (fun Da i H' p => keepL H' (hk Da i H' p).2 hl) hs hd)))
  · exact .inr (r_lcTu (r_var h (r_kLcTu Pv hl h0 (fun Da i H' p => keepT H' (hk Da i H' p).2 hl) hs hd)))
theorem SqL.same {H' : Hp} (e : Same H H') (h : SqL K H p xs) : SqL K H' p xs := by
  rcases h with (h | ⟨o, h⟩) | h
  · exact .inl (.inl (e _ _ h))
  · exact .inl (.inr ⟨o, e _ _ h⟩)
  · exact .inr h
theorem SqT.same {H' : Hp} (e : Same H H') (h : SqT K H p xs) : SqT K H' p xs := by
  rcases h with (h | ⟨o, h⟩) | h
  · exact .inl (.inl (e _ _ h))
  · exact .inl (.inr ⟨o, e _ _ h⟩)
  · exact .inr h
theorem SeqV.same {H' : Hp} (e : Same H H') (h : SeqV K H p xs) : SeqV K H' p xs := h.elim (fun h => .inl (SqL.same e h)) (fun h => .inr (SqT.same e h))
/-! ### locks -/
def kLock (d : Addr) (od : Obj) (u : HO) (Q : VK) : VK := fun v H' => H' d = some (.frz od u) ∧ Q v (upd H' d u)
theorem r_lockD {kvs : List (Key × V)} {t : TE} (h : H d = some (.dK kvs)) (q : ∀ od H1, H1 d = some (.frz od (.dK kvs)) → (∀ b o, H b = some o → b ≠ d → H1 b = some o) → (∀ b, H1 b = none → H b = none) → t σ H1 (kLock d od (.dK kvs) Q)) : tLockE t σ H Q :=
  ⟨d, .dK kvs, h, True.intro, fun od => q od _ upd_same (fun b o e n => by rw [upd_ne n]; exact e) (fun b e => by
    by_cases hb : b = d
    · rw [hb, upd_same] at e
      cases e
    · rw [upd_ne hb] at e
      exact e)⟩
theorem r_kLock {od : Obj} {u : HO} {v : V} {H0 H1 : Hp} (h0 : H0 d = some u) (h1 : ∀ b o, H0 b = some o → b ≠ d → H1 b = some o) (hd : H1 d = some (.frz od u)) (e : Same H1 H) (q : ∀ H', Same H0 H' → (∀ b o, H b = some o → b ≠ d → H' b = some o) → Q v H') : kLock d od u Q v H :=
  ⟨e _ _ hd, q _ (fun b o hb => by
    by_cases hbd : b = d
    · rw [hbd] at hb ⊢
      rw [upd_same, ← h0, hb]
    · rw [upd_ne hbd]
      exact e _ _ (h1 b o hb hbd)) (fun b o hb n => by rw [upd_ne n]; exact hb)⟩
def kLcK (g : TG) (tt : TT) (te : TE) (vs : List Nat) (σ : L2.St) (Q : VK) : VK := fun x H1 => ∃ d o, x = .ref d ∧ ((∃ kvs, H1 d = some (.frz o (.dK kvs)) ∧ LcW (Itk d o kvs) g tt te vs σ Q H1) ∨ ∃ kvs, H1 d = some (.frz o (.dT kvs)) ∧ LcW (Itkt d o kvs) g tt te vs σ Q H1)
theorem r_lcK (h : ta σ H (kLcK g tt te vs σ Q)) : tLc (iKeys ta) g tt te vs σ H Q := h
theorem r_kLcK {o : Obj} {kvs : List (Key × V)} (hd : H d = some (.frz o (.dK kvs))) (Pv : Addr → Nat → Hp → Prop) (h0 : ∀ Da H', H Da = none → Same H H' → H' Da = some (.lst []) → Pv Da 0 H') (hk : ∀ Da i H', Pv Da i H' → H' d = some (.frz o (.dK kvs)))
    (hs : ∀ Da i k v H', H Da = none → kvs[i]? = some (k, v) → Pv Da i H' → g (kV k) (wipe σ vs) H' (kLcG tt te vs σ Da Pv i)) (hf : ∀ Da H', H Da = none → Pv Da kvs.length H' → Q (.ref Da) H') : kLcK g tt te vs σ Q (.ref d) H :=
  ⟨d, o, rfl, .inl ⟨kvs, hd, lc_it kvs.length Pv h0 (fun Da i H' _ hi p => ⟨hk Da i H' p, hi⟩) (fun Da H' _ p => ⟨hk Da _ H' p, Nat.le_refl _⟩) (fun Da i x H' H2 hD _ p y => by
    obtain ⟨rfl, k, v, e, rfl⟩ := y
    exact hs Da i k v _ hD e p) hf⟩⟩
theorem r_kDGetF {a : Addr} {kvs : List (Key × V)} {o : Obj} {z : Str} {v : V} (h1 : H a = some (.frz o (.dK kvs))) (h2 : valV kvs (Sum.inr z) = some v) (q : Q v H) : kDGet Q (.ref a) (.str z) H :=
  ⟨a, v, rfl, .inl ⟨kvs, Sum.inr z, .inr ⟨o, h1⟩, rfl, h2.symm⟩, q⟩
def rLenD : List V → Hp → VK → Prop := fun xs H Q => ∃ a kvs, xs = [V.ref a] ∧ H a = some (.dK kvs) ∧ Q (.int kvs.length) H
theorem c_lenD {X : Cx} : CallR X (.builtin "len") rLenD := call_lenD
theorem r_lenD {kvs : List (Key × V)} (h : H d = some (.dK kvs)) (q : Q (.int kvs.length) H) : rLenD [.ref d] H Q := ⟨d, kvs, rfl, h, q⟩
/-! a dict made in a block, over a list -/
def kDcL (K : PySem.W.Frag) (g : TG) (tt : TT) (tk tv : TE) (vs : List Nat) (σ : L2.St) (Q : VK) : VK := fun x H1 => ∃ a, x = .ref a ∧ (∃ xs, SqL K H1 a xs) ∧ DcW (Itl K a) g tt tk tv vs σ Q H1
theorem r_dcL (h : tl σ H (kDcL K g tt tk tv vs σ Q)) : tDc (iList K tl) g tt tk tv vs σ H Q := h
theorem r_kDcL (hl : SqL K H p xs) (Pv : Addr → Nat → Hp → Prop) (h0 : ∀ Da H', H Da = none → Same H H' → H' Da = some (.dK []) → Pv Da 0 H') (hk : ∀ Da i H', Pv Da i H' → SqL K H' p xs)
    (hs : ∀ Da i x H', H Da = none → xs[i]? = some x → Pv Da i H' → g x (wipe σ vs) H' (kDcG tt tk tv vs σ Da Pv i)) (hd : ∀ Da H', H Da = none → Pv Da xs.length H' → Q (.ref Da) H') : kDcL K g tt tk tv vs σ Q (.ref p) H :=
  ⟨p, rfl, ⟨xs, hl⟩, dc_it xs.length Pv h0 (fun Da i H' _ hi p => ⟨xs, xs[i], hk Da i H' p, by simp [hi]⟩) (fun Da H' _ p => ⟨xs, hk Da _ H' p, Nat.le_refl _⟩) (fun Da i x H' H2 hD _ p y => by
    obtain ⟨rfl, y⟩ := y
    exact hs Da i x _ hD (y xs (hk Da i _ p)) p) hd⟩
end
end Wp
set_option Elab.async false
set_option linter.all false
set_option maxRecDepth 100000
set_option maxHeartbeats 4000000
/-! sum, min and max of a tuple of ints. -/
namespace Wp
open PySem PySem.Spec PyProof.Rows L2
section
variable {P : Program} {w : World} {A : Around} {E : Value → Shared → Prop} {s : Shared} {t : Addr} {us : List Value} {ns : List Int}
theorem begin_tup {items : Array Value} {R : Value → Shared → Prop} (ht : s.heap.IsTuple t items)
    (k : ∀ h2 : Heap, (h2.IsTupleIter s.heap.objs.size t 0 ∧ h2.IsTuple t items) → (∀ b ∈ [s.heap.objs.size, t], b < h2.objs.size) → t ≠ s.heap.objs.size →
      (∀ b o, s.heap.get? b = some o → h2.get? b = some o ∧ b ∉ [s.heap.objs.size]) → R (.ref s.heap.objs.size) { s with heap := h2 }) : wpAny (model P w) A (pyIter (.ref t)) R E s := by
  have lt : t < s.heap.objs.size := by
    obtain ⟨_, e, _⟩ := ht
    exact Heap.lt_size e
  refine wpAny_pyIter_tuple ht (k _ ⟨⟨_, Heap.get?_push_size _ rfl, rfl, rfl⟩, Heap.IsTuple.push ht _⟩ (fun b hb => ?_) (Nat.ne_of_lt lt) fun b o e => ⟨Heap.get?_push_of_some _ e, fun hm => ?_⟩)
  · rw [Heap.size_push]
    rcases List.mem_cons.mp hb with hb | hb
    · rw [hb]
      exact Nat.lt_succ_self _
    · rw [List.mem_singleton.mp hb]
      exact Nat.lt_succ_of_lt lt
  · have h1 : b < s.heap.objs.size := Heap.lt_size e
    have h2 : b = s.heap.objs.size := List.mem_singleton.mp hm
    rw [h2] at h1
    exact Nat.lt_irrefl _ h1
theorem tup_sum {R : Value → Shared → Prop} (hh : A.handled = none) (ht : s.heap.IsTuple t us.toArray) (hi : IntsAre us ns)
    (k : ∀ h' tk t', (∀ b o, s.heap.get? b = some o → h'.get? b = some o) → R (.int ns.sum t') { s with heap := h', toks := tk }) : wpAny (model P w) A (call (.builtin "sum") [.ref t]) R E s := by
  obtain ⟨xs, ex⟩ := hi.allInts.items
  have en : numsOf (intItems xs).toList = ns := by
    rw [← ex]
    exact hi.numsOf
  rw [nums_intItems] at en
  rw [ex] at ht
  refine call_sum_walkG (begin_tup ht fun h2 st fp ne old => ?_)
  refine ⟨_, _, _, _, _, _, numAt xs, rfl, Walks.tuple (A := A.in1) hh _ t ne (intItems xs), st, fp, (fun _ _ => intItems_at), fun h' tk t' hk => ?_⟩
  have z := k h' tk t' fun b o e => hk b o (old b o e).2 (old b o e).1
  rw [preSum_eq, List.take_of_length_le (by simp [intItems]), en]
  exact z
theorem tup_min {R : Value → Shared → Prop} (hh : A.handled = none) (ht : s.heap.IsTuple t us.toArray) (hi : IntsAre us ns) (hne : 0 < ns.length)
    (k : ∀ h' tk m t', (∀ b o, s.heap.get? b = some o → h'.get? b = some o) → m ∈ ns → (∀ a, a ∈ ns → m ≤ a) → R (.int m t') { s with heap := h', toks := tk }) : wpAny (model P w) A (call (.builtin "min") [.ref t]) R E s := by
  obtain ⟨xs, ex⟩ := hi.allInts.items
  have en : numsOf (intItems xs).toList = ns := by
    rw [← ex]
    exact hi.numsOf
  rw [nums_intItems] at en
  subst en
  rw [ex] at ht
  have pos : 0 < xs.size := by simpa using hne
  refine call_min_walk (begin_tup ht fun h2 st fp ne old => ?_)
  refine ⟨_, _, _, _, _, _, _, rfl, Walks.tuple (A := A.in1) hh _ t ne (intItems xs), st, fp, by simpa [intItems] using pos, CmpOf.ints_lt (numAt xs) (fun _ _ => intItems_at), fun v h' tk hP hk => ?_⟩
  obtain ⟨t', rfl⟩ := intItems_at (by simpa [intItems] using hP)
  obtain ⟨b1, b2⟩ := argBest_lt (numAt xs) (xs.size - 1)
  refine k h' tk _ t' (fun b o e => hk b o (old b o e).2 (old b o e).1) ?_ fun a ha => ?_
  · rw [numAt_eq]
    refine PySem.getD_mem ?_
    rw [List.length_map, Array.length_toList]
    omega
  · obtain ⟨j, hj, rfl⟩ := mem_getD ha
    rw [List.length_map, Array.length_toList] at hj
    rw [← numAt_eq]
    exact b2 j (by omega)
end
section
variable {X : Cx} {K : PySem.W.Frag}
def rSumT (K : PySem.W.Frag) : List V → Hp → VK → Prop := fun vs H Q => ∃ (a : Addr) (ns : List Int), vs = [V.ref a] ∧ SqT K H a (ns.map V.int) ∧ Q (.int ns.sum) H
def rMinT (K : PySem.W.Frag) : List V → Hp → VK → Prop := fun vs H Q => ∃ (a : Addr) (ns : List Int), vs = [V.ref a] ∧ SqT K H a (ns.map V.int) ∧ 0 < ns.length ∧ ∀ m, m ∈ ns → (∀ y, y ∈ ns → m ≤ y) → Q (.int m) H
theorem c_sumT (h : X.K = K) (hc : X.calm = true) : CallR X (.builtin "sum") (rSumT K) := by
  subst h
  rintro pins s σ H vs us Q I r ⟨a, ns, rfl, hs, q⟩
  obtain ⟨its, rv, hl, _⟩ := I.tuple hs
  rw [Vals.ref1 r]
  exact tup_sum (I.ok.hd hc) hl rv.ints fun h' tk t' hk => ⟨.int _, H, I.kept hk, ⟨_, rfl⟩, q⟩
theorem c_minT (h : X.K = K) (hc : X.calm = true) : CallR X (.builtin "min") (rMinT K) := by
  subst h
  rintro pins s σ H vs us Q I r ⟨a, ns, rfl, hs, hne, q⟩
  obtain ⟨its, rv, hl, _⟩ := I.tuple hs
  rw [Vals.ref1 r]
  exact tup_min (I.ok.hd hc) hl rv.ints hne fun h' tk m t' hk h1 h2 => ⟨.int _, H, I.kept hk, ⟨_, rfl⟩, q m h1 h2⟩
end
end Wp
set_option Elab.async false
set_option linter.all false
set_option maxRecDepth 100000
set_option maxHeartbeats 4000000
/-! Lists and tuples by their kind; all of bools; slices. -/
namespace Wp
open PySem PySem.Spec PyProof.Rows L2
section
variable {K : PySem.W.Frag} {H : Hp} {Q : VK} {p : Addr} {xs : List V}
theorem SqL.ty (h : SqL K H p xs) : TyX K H (.ref p) (.type "list") := by
  rcases h with (h | ⟨o, h⟩) | ⟨o, its, n, h, hc, _⟩
  · exact .base (.lst h)
  · exact .base (.frz h)
  · exact .kList h hc
theorem SqT.ty (h : SqT K H p xs) : TyX K H (.ref p) (.type "tuple") := by
  rcases h with (h | ⟨o, h⟩) | ⟨o, its, n, h, hc, _⟩
  · exact .base (.tup h)
  · exact .fTuple h
  · exact .kTuple h hc
theorem r_isSeq {tp : Addr} (h : SeqV K H p xs) (ht : H tp = some (.tup [.ty "list", .ty "tuple"])) (q : Q (.bl true) H) : rIsiT K [.ref p, .ref tp] H Q := by
  rcases h with h | h
  · exact ⟨_, tp, _, _, [.type "list", .type "tuple"], true, rfl, ht, .cons (.ty _) (.cons (.ty _) .nil), SqL.ty h, kitAny_cons (kit_ty (r := true) (by decide +kernel)) (fun e => by cases e) (fun _ => rfl), q⟩
  · exact ⟨_, tp, _, _, [.type "list", .type "tuple"], true, rfl, ht, .cons (.ty _) (.cons (.ty _) .nil), SqT.ty h, kitAny_cons (kit_ty (r := false) (by decide +kernel)) (fun _ => kitAny_cons (kit_ty (r := true) (by decide +kernel)) (fun e => by cases e) (fun _ => rfl)) (fun e => by cases e), q⟩
theorem r_inSign {c : Nat} {z : Str} (q : Q (.bl (decide (c ∈ z.cps.toList))) H) : ∃ (c' : Nat) (z' : Str), V.str ⟨#[c]⟩ = .str ⟨#[c']⟩ ∧ V.str z = .str z' ∧ Q (.bl (decide (c' ∈ z'.cps.toList))) H := ⟨c, z, rfl, rfl, q⟩
theorem r_all {bs : List Bool} (h : SqL K H p (bs.map V.bl)) (q : Q (.bl (bs.all id)) H) : rAll K [.ref p] H Q := ⟨p, bs, rfl, h, q⟩
theorem all_rep : ∀ n, (List.replicate n true).all id = true
  | 0 => rfl
  | n + 1 => by rw [List.replicate_succ, List.all_cons, all_rep n]; rfl
theorem rep_more (n : Nat) : (List.replicate (n + 1) true).map V.bl = (List.replicate n true).map V.bl ++ [V.bl true] := by
  rw [List.replicate_succ', List.map_append]
  rfl
theorem r_isiDict {kvs : List (Key × V)} (h : H p = some (.dK kvs)) (q : Q (.bl true) H) : rIsi K [.ref p, .ty "dict"] H Q := r_isiT (.base (.dK h)) (by decide +kernel) q
end
theorem cutV_m1 (xs : List V) : cutV xs none (some (-1)) = xs.dropLast := by
  have e : HT.sIx xs.length xs.length (some (-1)) = xs.length - 1 := by
    show (if (-1 : Int) < 0 then ((-1 : Int) + (xs.length : Int)).toNat else min (-1 : Int).toNat xs.length) = _
    rw [if_pos (by decide)]
    omega
  unfold cutV
  rw [e, List.dropLast_eq_take]
  rfl
end Wp
set_option Elab.async false
set_option linter.all false
set_option maxRecDepth 100000
set_option maxHeartbeats 4000000
/-! dict(zip(t, u)) of two tuples. -/
namespace Wp
open PySem PySem.Spec PyProof.Rows L2
open PySem.Sem (wp)
/-- an iterator over the items xs: S k says that k of them are taken -/
structure Nx (prog : Program) (w : World) (it l : Addr) (xs : Array Value) (S : Nat → Heap → Prop) : Prop where
  step : ∀ {A : Around} {E : Value → Shared → Prop} {s : Shared} {k : Nat} {x : Value} {Q : Value → Shared → Prop}, S k s.heap → xs[k]? = some x →
    (∀ g, S (k + 1) g → Heap.SameBut it s.heap g → Q x { s with heap := g }) → wpAny (model prog w) A (Builtin.SmallTypes.nextOf (.ref it)) Q E s
  stop : ∀ {A : Around} {E : Value → Shared → Prop} {s : Shared} {k : Nat} {Q : Value → Shared → Prop}, A.handled = none → S k s.heap → xs[k]? = none →
    (∀ g e, Heap.ExtBut it s.heap g → (∃ o, g.get? e = some o ∧ o.cls = .type "StopIteration") → E (.ref e) { s with heap := g }) → wpAny (model prog w) A (Builtin.SmallTypes.nextOf (.ref it)) Q E s
  keep : ∀ {k : Nat} {h g : Heap}, S k h → (∀ b, b = it ∨ b = l → ∀ o, h.get? b = some o → g.get? b = some o) → S k g
/-- of a tuple -/
def St (it l : Addr) (xs : Array Value) (k : Nat) (h : Heap) : Prop := h.IsTupleIter it l k ∧ h.IsTuple l xs
theorem nx_tup (prog : Program) (w : World) {it l : Addr} {xs : Array Value} (ne : l ≠ it) : Nx prog w it l xs (St it l xs) where
  step := fun ⟨a, b⟩ hx q => RZ.nextOf_tuple_item a b hx fun g a' sb => q g ⟨a', b.at fun o e => sb.extBut _ _ ne e⟩ sb
  stop := fun hh ⟨a, b⟩ hx q => RZ.nextOf_tuple_end hh a b hx q
  keep := fun ⟨a, b⟩ k => ⟨a.at fun o e => k _ (.inl rfl) o e, b.at fun o e => k _ (.inr rfl) o e⟩
section
variable {prog : Program} {w : World} {A : Around} {E : Value → Shared → Prop} {s : Shared} {z TI TO T i1 i2 l1 l2 : Addr} {f : Bool} {ob : Obj} {k : Nat} {xs ys : Array Value} {x y : Value} {S1 S2 : Nat → Heap → Prop}
/-- a zip whose pair is still held hands out a new one -/
theorem held_next {Q : Value → Shared → Prop} (N1 : Nx prog w i1 l1 xs S1) (N2 : Nx prog w i2 l2 ys S2) (D : ZipApart z TI TO i1 i2 l1 l2) (hz : IsZipHeld s.heap z TI TO T f) (hT : s.heap.get? T = some ob)
    (hp : IsPair s.heap TI (.ref i1) (.ref i2)) (c1 : S1 k s.heap) (c2 : S2 k s.heap) (ex : xs[k]? = some x) (ey : ys[k]? = some y)
    (q : ∀ g, IsZipHeld g z TI TO T true → S1 (k + 1) g → S2 (k + 1) g → IsPair g s.heap.objs.size x y → (∀ c o, c ≠ z → c ≠ i1 → c ≠ i2 → s.heap.get? c = some o → g.get? c = some o) → Q (.ref s.heap.objs.size) { s with heap := g }) :
    wpAny (model prog w) A (Builtin.«zip.__next__» ⟨[.ref z], []⟩) (fun r t => ∃ v, r = .done (.ret v) ∧ Q v t) E s := by
  show wpAny (model prog w) A (field (.ref z) 2 >>= _) _ E s
  refine wpAny_bind (wpAny_field hz rfl (x := .bool false) rfl ?_)
  show wpAny (model prog w) A (field (.ref z) 3 >>= _) _ E s
  refine wpAny_bind (wpAny_field hz rfl (x := .ref TI) rfl (wpAny_bind (wpAny_seqItems hp rfl ?_)))
  show wpAny (model prog w) A (Builtin.SmallTypes.ownedTupleIsFree (.ref z) >>= _) _ E s
  refine wpAny_bind (wpAny_tupleHeld_zip hz hT fun ga za sa => ?_)
  simp only [Bool.false_eq_true, if_false]
  refine wpAny_bind ?_
  rw [← Array.forIn_toList]
  simp only [List.forIn_cons, List.forIn_nil]
  have c1a : S1 k ga := N1.keep c1 fun b hb o e => sa.extBut _ _ (by rcases hb with rfl | rfl; exact D.i1z; exact D.l1z) e
  have c2a : S2 k ga := N2.keep c2 fun b hb o e => sa.extBut _ _ (by rcases hb with rfl | rfl; exact D.i2z; exact D.l2z) e
  refine wpAny_bind (wpAny_bind (wpAny_holding ?_))
  show wpAny (model prog w) A (Builtin.SmallTypes.nextOf (.ref i1) >>= _) _ E { s with heap := ga }
  refine wpAny_bind (N1.step (s := { s with heap := ga }) c1a ex fun gb c1b sb => wpAny_pure (wpAny_pure ?_))
  have c2b : S2 k gb := N2.keep c2a fun b hb o e => sb.extBut _ _ (by rcases hb with rfl | rfl; exact D.i12.symm; exact D.l2i1) e
  refine wpAny_bind (wpAny_bind (wpAny_holding ?_))
  show wpAny (model prog w) A (Builtin.SmallTypes.nextOf (.ref i2) >>= _) _ E { s with heap := gb }
  refine wpAny_bind (N2.step (s := { s with heap := gb }) c2b ey fun gc c2c sc => wpAny_pure (wpAny_pure (wpAny_pure ?_)))
  have c1c : S1 (k + 1) gc := N1.keep c1b fun b hb o e => sc.extBut _ _ (by rcases hb with rfl | rfl; exact D.i12; exact D.l1i2) e
  show wpAny (model prog w) A (newTuple [x, y] >>= _) _ E { s with heap := gc }
  refine wpAny_bind (wpAny_newTuple (wpAny_pure ⟨_, rfl, ?_⟩))
  show Q (.ref gc.objs.size) _
  have sz : gc.objs.size = s.heap.objs.size := sc.1.trans (sb.1.trans sa.1)
  have zc : IsZipHeld gc z TI TO T true := sc.extBut _ _ D.i2z.symm (sb.extBut _ _ D.i1z.symm za)
  have up : ∀ c o, gc.get? c = some o → (gc.push { cls := .type "tuple", data := .seq #[x, y] }).get? c = some o := fun c o e => Heap.get?_push_of_some _ e
  have pr : IsPair (gc.push { cls := .type "tuple", data := .seq #[x, y] }) gc.objs.size x y := Heap.get?_push_size _ rfl
  have fin := q (gc.push { cls := .type "tuple", data := .seq #[x, y] }) (up _ _ zc) (N1.keep c1c fun b _ o e => up b o e) (N2.keep c2c fun b _ o e => up b o e) (by rw [← sz]; exact pr)
    fun c o n1 n2 n3 e => up _ _ (sc.extBut _ _ n3 (sb.extBut _ _ n2 (sa.extBut _ _ n1 e)))
  rw [← sz] at fin
  exact fin
/-- .. or ends -/
theorem held_end {Q : PySem.Fin → Shared → Prop} (hh : A.handled = none) (N1 : Nx prog w i1 l1 xs S1) (N2 : Nx prog w i2 l2 ys S2) (D : ZipApart z TI TO i1 i2 l1 l2) (hz : IsZipHeld s.heap z TI TO T f) (hT : s.heap.get? T = some ob)
    (hp : IsPair s.heap TI (.ref i1) (.ref i2)) (c1 : S1 k s.heap) (ex : xs[k]? = none)
    (q : ∀ g e, (∀ c o, c ≠ z → c ≠ i1 → c ≠ i2 → s.heap.get? c = some o → g.get? c = some o) → (∃ o, g.get? e = some o ∧ o.cls = .type "StopIteration") → E (.ref e) { s with heap := g }) :
    wpAny (model prog w) A (Builtin.«zip.__next__» ⟨[.ref z], []⟩) Q E s := by
  show wpAny (model prog w) A (field (.ref z) 2 >>= _) _ E s
  refine wpAny_bind (wpAny_field hz rfl (x := .bool false) rfl ?_)
  show wpAny (model prog w) A (field (.ref z) 3 >>= _) _ E s
  refine wpAny_bind (wpAny_field hz rfl (x := .ref TI) rfl (wpAny_bind (wpAny_seqItems hp rfl ?_)))
  show wpAny (model prog w) A (Builtin.SmallTypes.ownedTupleIsFree (.ref z) >>= _) _ E s
  refine wpAny_bind (wpAny_tupleHeld_zip hz hT fun ga za sa => ?_)
  simp only [Bool.false_eq_true, if_false]
  refine wpAny_bind ?_
  rw [← Array.forIn_toList]
  simp only [List.forIn_cons, List.forIn_nil]
  have c1a : S1 k ga := N1.keep c1 fun b hb o e => sa.extBut _ _ (by rcases hb with rfl | rfl; exact D.i1z; exact D.l1z) e
  refine wpAny_bind (wpAny_bind (wpAny_holding ?_))
  show wpAny (model prog w) A (Builtin.SmallTypes.nextOf (.ref i1) >>= _) _ E { s with heap := ga }
  exact wpAny_bind (N1.stop (s := { s with heap := ga }) hh c1a ex fun gb e sb he => q gb e (fun c o n1 n2 _ h => sb _ _ n2 (sa.extBut _ _ n1 h)) he)
theorem held_item {Q : Option Value → Shared → Prop} (N1 : Nx prog w i1 l1 xs S1) (N2 : Nx prog w i2 l2 ys S2) (D : ZipApart z TI TO i1 i2 l1 l2) (hz : IsZipHeld s.heap z TI TO T f) (hT : s.heap.get? T = some ob)
    (hp : IsPair s.heap TI (.ref i1) (.ref i2)) (c1 : S1 k s.heap) (c2 : S2 k s.heap) (ex : xs[k]? = some x) (ey : ys[k]? = some y)
    (q : ∀ g, IsZipHeld g z TI TO T true → S1 (k + 1) g → S2 (k + 1) g → IsPair g s.heap.objs.size x y → (∀ c o, c ≠ z → c ≠ i1 → c ≠ i2 → s.heap.get? c = some o → g.get? c = some o) → Q (some (.ref s.heap.objs.size)) { s with heap := g }) :
    wpAny (model prog w) A (pyNext (.ref z)) Q E s := by
  have ty : s.TypeIs (.ref z) "zip" := ⟨_, hz, rfl⟩
  unfold pyNext
  refine wpAny_bind (wpAny_attempt (wpAny_callSpecial?_slot (name := Str.ofString "__next__") ty F.slot_zip_next (wpAny_call_entry F.slot_zip_next ty F.entry_zip_next ?_ (F.args_zip_next_1 _))))
  exact held_next N1 N2 D hz hT hp c1 c2 ex ey fun g p1 p2 p3 p4 p5 => wpAny_pure (q g p1 p2 p3 p4 p5)
theorem held_none {Q : Option Value → Shared → Prop} (hh : A.handled = none) (N1 : Nx prog w i1 l1 xs S1) (N2 : Nx prog w i2 l2 ys S2) (D : ZipApart z TI TO i1 i2 l1 l2) (hz : IsZipHeld s.heap z TI TO T f) (hT : s.heap.get? T = some ob)
    (hp : IsPair s.heap TI (.ref i1) (.ref i2)) (c1 : S1 k s.heap) (ex : xs[k]? = none)
    (q : ∀ g, (∀ c o, c ≠ z → c ≠ i1 → c ≠ i2 → s.heap.get? c = some o → g.get? c = some o) → Q none { s with heap := g }) : wpAny (model prog w) A (pyNext (.ref z)) Q E s := by
  have ty : s.TypeIs (.ref z) "zip" := ⟨_, hz, rfl⟩
  unfold pyNext
  refine wpAny_bind (wpAny_attempt (wpAny_callSpecial?_slot (name := Str.ofString "__next__") ty F.slot_zip_next (wpAny_call_entry F.slot_zip_next ty F.entry_zip_next (held_end hh N1 N2 D hz hT hp c1 ex fun g e kp he => ?_) (F.args_zip_next_1 _))))
  obtain ⟨o, ho, hc⟩ := he
  exact wpAny_bind (wpAny_isInstance (T := "StopIteration") (b := true) ⟨o, ho, hc⟩ isSubtype_stop (wpAny_pure (q _ kp)))
/-- what stands while the pairs of two tuples of one length are drawn -/
def ZSt (z TI TO i1 i2 l1 l2 d : Addr) (xs ys : Array Value) (i : Nat) (h : Heap) : Prop := IsPair h TI (.ref i1) (.ref i2) ∧ St i1 l1 xs i h ∧ St i2 l2 ys i h ∧
  ((IsZip h z TI TO .none ∧ ∃ a b, IsPair h TO a b) ∨ ∃ T f ob, IsZipHeld h z TI TO T f ∧ h.get? T = some ob ∧ T ≠ z ∧ T ≠ i1 ∧ T ≠ i2 ∧ T ≠ d)
theorem zip_src {d : Addr} (hh : A.handled = none) (D : ZipApart z TI TO i1 i2 l1 l2) (hl : xs.size = ys.size) (nd : d ≠ z ∧ d ≠ TI ∧ d ≠ TO ∧ d ≠ i1 ∧ d ≠ i2 ∧ d ≠ l1 ∧ d ≠ l2) :
    PairSrc prog w A z d [z, TO, i1, i2] xs.size (fun i a b => xs[i]? = some a ∧ ys[i]? = some b) (ZSt z TI TO i1 i2 l1 l2 d xs ys) := by
  obtain ⟨dz, dTI, dTO, di1, di2, dl1, dl2⟩ := nd
  have M1 := nx_tup prog w (it := i1) (l := l1) (xs := xs) D.l1i1
  have M2 := nx_tup prog w (it := i2) (l := l2) (xs := ys) D.l2i2
  refine ⟨by simp [dz, dTO, di1, di2], ?_, ?_, ?_⟩
  · rintro i h g ⟨hp, c1, c2, hz⟩ kp
    refine ⟨kp _ _ dTI.symm hp, M1.keep c1 fun b hb o e => kp _ _ (by rcases hb with rfl | rfl; exact di1.symm; exact dl1.symm) e, M2.keep c2 fun b hb o e => kp _ _ (by rcases hb with rfl | rfl; exact di2.symm; exact dl2.symm) e, ?_⟩
    rcases hz with ⟨hz, a, b, hTO⟩ | ⟨T, f, ob, hz, hT, r1, r2, r3, r4⟩
    · exact .inl ⟨kp _ _ dz.symm hz, a, b, kp _ _ dTO.symm hTO⟩
    · exact .inr ⟨T, f, ob, kp _ _ dz.symm hz, kp _ _ r4 hT, r1, r2, r3, r4⟩
  · rintro i s Q E hi ⟨hp, c1, c2, hz⟩ hds q
    have ex := Array.getElem?_eq_getElem hi
    have ey := Array.getElem?_eq_getElem (hl ▸ hi : i < ys.size)
    have new : ∀ {c o}, s.heap.get? c = some o → s.heap.objs.size ≠ c := fun e => Nat.ne_of_gt (Heap.lt_size e)
    have n1 : s.heap.objs.size ≠ i1 := let ⟨_, e, _⟩ := c1.1; new e
    have n2 : s.heap.objs.size ≠ i2 := let ⟨_, e, _⟩ := c2.1; new e
    have out : ∀ {c : Addr}, c ∉ [z, TO, i1, i2] → c ≠ z ∧ c ≠ TO ∧ c ≠ i1 ∧ c ≠ i2 := fun h => by simpa using h
    rcases hz with ⟨hz, a, b, hTO⟩ | ⟨T, f, ob, hz, hT, r1, r2, r3, r4⟩
    · refine RZ.pyNext_zipT_item D hz hp hTO c1.1 c2.1 c1.2 c2.2 ex ey fun g z1 z2 z3 z4 z5 z6 kp => ?_
      refine q _ _ _ g s.toks ⟨ex, ey⟩ (.inl ⟨_, z5, rfl, _, rfl⟩) ⟨kp _ _ D.TIz D.TITO D.TIi1 D.TIi2 hp, ⟨z3, c1.2.at fun o e => kp _ _ D.l1z D.l1TO D.l1i1 D.l1i2 e⟩, ⟨z4, c2.2.at fun o e => kp _ _ D.l2z D.l2TO D.l2i1 D.l2i2 e⟩, .inr ⟨_, false, _, z1, z5, new hz, n1, n2, Nat.ne_of_gt hds⟩⟩ fun c o hc e => ?_
      obtain ⟨o1, o2, o3, o4⟩ := out hc
      exact kp _ _ o1 o2 o3 o4 e
    · refine held_item M1 M2 D hz hT hp c1 c2 ex ey fun g z1 z2 z3 z4 kp => ?_
      refine q _ _ _ g s.toks ⟨ex, ey⟩ (.inl ⟨_, z4, rfl, _, rfl⟩) ⟨kp _ _ D.TIz D.TIi1 D.TIi2 hp, z2, z3, .inr ⟨T, true, ob, z1, kp _ _ r1 r2 r3 hT, r1, r2, r3, r4⟩⟩ fun c o hc e => ?_
      obtain ⟨o1, o2, o3, o4⟩ := out hc
      exact kp _ _ o1 o3 o4 e
  · rintro s Q E ⟨hp, c1, c2, hz⟩ q
    have ex : xs[xs.size]? = none := Array.getElem?_eq_none (Nat.le_refl _)
    have out : ∀ {c : Addr}, c ∉ [z, TO, i1, i2] → c ≠ z ∧ c ≠ TO ∧ c ≠ i1 ∧ c ≠ i2 := fun h => by simpa using h
    rcases hz with ⟨hz, a, b, hTO⟩ | ⟨T, f, ob, hz, hT, r1, r2, r3, r4⟩
    · refine RZ.pyNext_zipT_end hh D hz hp hTO c1.1 c2.1 c1.2 c2.2 (.inl ex) fun g kp => q g s.toks fun c o hc e => ?_
      obtain ⟨o1, o2, o3, o4⟩ := out hc
      exact kp _ _ o1 o2 o3 o4 e
    · refine held_none hh M1 M2 D hz hT hp c1 ex fun g kp => q g s.toks fun c o hc e => ?_
      obtain ⟨o1, o2, o3, o4⟩ := out hc
      exact kp _ _ o1 o3 o4 e
theorem zip_arg (D : ZipApart z TI TO i1 i2 l1 l2) (hl : xs.size = ys.size) : PairArg prog w "zip" z [z, TI, TO, i1, i2, l1, l2] [z, TO, i1, i2] xs.size (fun i a b => xs[i]? = some a ∧ ys[i]? = some b)
    (fun h => IsZip h z TI TO .none ∧ IsPair h TI (.ref i1) (.ref i2) ∧ (∃ a b, IsPair h TO a b) ∧ St i1 l1 xs 0 h ∧ St i2 l2 ys 0 h) where
  type := fun s ok => ⟨_, ok.1, rfl⟩
  notDict := by decide
  keep := fun h g ⟨p1, p2, ⟨a, b, p3⟩, p4, p5⟩ kp => ⟨kp _ _ p1, kp _ _ p2, ⟨a, b, kp _ _ p3⟩, (nx_tup prog w D.l1i1).keep p4 fun b _ o e => kp b o e, (nx_tup prog w D.l2i2).keep p5 fun b _ o e => kp b o e⟩
  there := fun h ⟨p1, p2, ⟨a, c, p3⟩, ⟨⟨_, q1, _⟩, ⟨_, q2, _⟩⟩, ⟨⟨_, q3, _⟩, ⟨_, q4, _⟩⟩⟩ b hb => by
    simp only [List.mem_cons, List.not_mem_nil, or_false] at hb
    rcases hb with rfl | rfl | rfl | rfl | rfl | rfl | rfl
    · exact ⟨_, p1⟩
    · exact ⟨_, p2⟩
    · exact ⟨_, p3⟩
    · exact ⟨_, q1⟩
    · exact ⟨_, q3⟩
    · exact ⟨_, q2⟩
    · exact ⟨_, q4⟩
  sub := fun b hb => by
    simp only [List.mem_cons, List.not_mem_nil, or_false] at hb ⊢
    rcases hb with rfl | rfl | rfl | rfl <;> simp
  noKeys := fun A s Q E hA ok q => getAttrOr_miss_zip ok.1 rfl rfl rfl zip_no_keys (by decide +kernel) hA q
  iter := fun A s d Q E hA ⟨p1, p2, p3, p4, p5⟩ hd nd q => by
    simp only [List.mem_cons, List.not_mem_nil, or_false, not_or] at nd
    exact wpAny_pyIter_zip p1 (q z _ _ s.heap s.toks (zip_src hA D hl nd) ⟨p2, p4, p5, .inl ⟨p1, p3⟩⟩ (fun _ _ e => e) fun b hb => .inl hb)
end
/-- dict(zip(t, u)) -/
def kDZ (K : PySem.W.Frag) (Q : VK) : List V → Hp → Prop := fun vs H1 => ∃ (a b : Addr) (ks : List Key) (ys : List V), vs = [.ref a, .ref b] ∧ SqT K H1 a (ks.map kV) ∧ SqT K H1 b ys ∧ ks.length = ys.length ∧ ks.length ≤ 1000 ∧
  ∀ q, H1 q = none → Q (.ref q) (upd H1 q (.dK (mergeK [] (ks.zip ys))))
def tDZ (K : PySem.W.Frag) (ta : TA) : TE := fun σ H Q => ta σ H (kDZ K Q)
theorem keys_is : ∀ {ks : List Key} {us : List Value}, Vals (ks.map kV) us → ∀ {i : Nat} {u : Value}, us[i]? = some u → ∃ k, ks[i]? = some k ∧ keyIs k u = true
  | [], _, .nil, i, u, h => by simp at h
  | k :: ks, _, .cons r rr, 0, u, h => by
    have e := Option.some.inj h
    subst e
    refine ⟨k, rfl, ?_⟩
    cases k with
    | inl i =>
      obtain ⟨t, rfl⟩ := (show ∃ t, _ = Value.int i t from r)
      exact keyIs_int i t
    | inr x =>
      obtain ⟨t, rfl⟩ := (show ∃ t, _ = Value.str x t from r)
      exact keyIs_str x t
  | _ :: ks, _, .cons r rr, i + 1, u, h => keys_is (ks := ks) rr (i := i) h
theorem kv_zip : ∀ {ks : List Key} {ys : List V} {us : List Value}, Vals ys us → KV (ks.zip ys) (ks.zip us)
  | [], _, _, _ => .nil
  | _ :: _, _, _, .nil => .nil
  | k :: ks, _, _, .cons r rr => .cons ⟨rfl, r⟩ (kv_zip rr)
section
variable {X : Cx} {K : PySem.W.Frag} {a b : Expr} {ta : TA} {p p2 pos pos2 : Pos}
theorem pe_dictZip (hK : X.K = K) (hc : X.calm = true) (hd : Gl X "dict") (md : X.mg "dict" = none) (hz : Gl X "zip") (mz : X.mg "zip" = none) (ha : PA X [a, b] ta)
    (hs : starEach [a, b] X.env = (false, eval a X.env) :: starEach [b] X.env := by rfl) (hpl : (backTo pos2 (starEach [b] X.env)).any (·.1) = false := by rfl)
    (na : starEach [.Call (.Name "zip" p2) [a, b] [] pos2] X.env = (false, eval (.Call (.Name "zip" p2) [a, b] [] pos2) X.env) :: starEach [] X.env := by rfl) :
    PE X (.Call (.Name "dict" p) [.Call (.Name "zip" p2) [a, b] [] pos2] [] pos) (tDZ K ta) := by
  subst hK
  refine ⟨fun pins s σ H Q I h => ?_⟩
  have inner : wpAny (model X.prog X.w) X.A (eval (.Call (.Name "zip" p2) [a, b] [] pos2) X.env)
      (fun v t => ∃ (s1 : Shared) (H1 : Hp) (g : Heap) (l1 l2 : Addr) (ks : List Key) (ys : List V) (xa ya : List Value), Inv X pins σ H1 s1 ∧ t = { s1 with heap := g } ∧ v = .ref (s1.heap.objs.size + 4) ∧
        Vals (ks.map kV) xa ∧ Vals ys ya ∧ ks.length = ys.length ∧ ks.length ≤ 1000 ∧ (∀ q, H1 q = none → Q (.ref q) (upd H1 q (.dK (mergeK [] (ks.zip ys))))) ∧ l1 < s1.heap.objs.size ∧ l2 < s1.heap.objs.size ∧
        (∀ c o, s1.heap.get? c = some o → g.get? c = some o) ∧ g.objs.size = s1.heap.objs.size + 5 ∧ IsZip g (s1.heap.objs.size + 4) (s1.heap.objs.size + 2) (s1.heap.objs.size + 3) .none ∧
        IsPair g (s1.heap.objs.size + 2) (.ref s1.heap.objs.size) (.ref (s1.heap.objs.size + 1)) ∧ IsPair g (s1.heap.objs.size + 3) .none .none ∧
        St s1.heap.objs.size l1 xa.toArray 0 g ∧ St (s1.heap.objs.size + 1) l2 ya.toArray 0 g) X.xe s := by
    refine Call_ (ld_blt I hz mz PyProof.Rows.boot_zip (PyProof.Rows.callWith_type1 (thn (ha.run pos2 pins s σ H _ I h) ?_) hs hpl))
    rintro us s1 ⟨vs, H1, I1, r1, l1, l2, ks, ys, ev, t1, t2, el, e1000, q⟩
    subst ev
    match us, r1 with
    | _, .cons r (.cons r' .nil) =>
      obtain rfl := (show _ = Value.ref l1 from r)
      obtain rfl := (show _ = Value.ref l2 from r')
      obtain ⟨xa, rv, p1, _⟩ := I1.tuple t1
      obtain ⟨ya, rv2, p2, _⟩ := I1.tuple t2
      have q1 : s1.heap.IsTuple l1 xa.toArray := p1
      have q2 : s1.heap.IsTuple l2 ya.toArray := p2
      obtain ⟨o1, ho1, _⟩ := id q1
      obtain ⟨o2, ho2, _⟩ := id q2
      refine RZ.call_zipT q1 q2 fun g z1 z2 z3 z4 z5 z6 kp => ?_
      exact ⟨s1, H1, g, l1, l2, ks, ys, xa, ya, I1, rfl, rfl, rv, rv2, el, e1000, q, Heap.lt_size ho1, Heap.lt_size ho2, kp, z6, z1, z2, z3, ⟨z4, q1.at fun o e => kp _ _ e⟩, ⟨z5, q2.at fun o e => kp _ _ e⟩⟩
  refine Call_ (ld_blt I hd md PyProof.Rows.boot_dict (PyProof.Rows.callWith_type1 (args_cons (thn inner ?_) na) na))
  rintro v t ⟨s1, H1, g, l1, l2, ks, ys, xa, ya, I1, rfl, rfl, rv, rv2, el, e1000, q, lt1, lt2, kp, sz, z1, z2, z3, c1, c2⟩
  refine args_nil ?_
  have lx : xa.length = ks.length := by rw [← rv.length, List.length_map]
  have ly : ya.length = ks.length := by rw [← rv2.length, el]
  have D := PySem.W.ktu_apart s1.heap.objs.size l1 l2 lt1 lt2
  refine PySem.call_dict_pairs (knd := mixKind X.prog X.w) (kvs := ks.zip ya) (s := { s1 with heap := g }) (zip_arg D (by simp [lx, ly])) (I1.ok.hd hc) ⟨z1, z2, ⟨_, _, z3⟩, c1, c2⟩ ⟨?_, ?_⟩ (by simp [lx]; exact sz5 (by omega)) fun g2 tk dct kp2 => ?_
  · simp [lx, ly]
  · rintro i key v ⟨e1, e2⟩
    rw [List.getElem?_toArray] at e1 e2
    obtain ⟨k, hk, kis⟩ := keys_is rv e1
    exact ⟨k, by rw [List.getElem?_zip_eq_some]; exact ⟨hk, e2⟩, kis⟩
  · have sg : g.objs.size = s1.heap.objs.size + 5 := sz
    have big : s1.heap.objs.size ≤ g.objs.size := by omega
    have hm : (g.objs.size == sysModules) = false := beq_eq_false_iff_ne.mpr (Nat.ne_of_gt (Nat.lt_of_lt_of_le I1.big big))
    have hlen : (mergeK [] (ks.zip ys)).length ≤ sizeLine := by
      refine Nat.le_trans (length_mergeK _ []) ?_
      rw [List.length_nil, List.length_zip]
      exact sz5 (by omega)
    have kpt : ∀ c o, s1.heap.get? c = some o → g2.get? c = some o := fun c o e => by
      have hlt := Heap.lt_size e
      refine kp2 c o (fun hm => ?_) (kp _ _ e)
      simp only [List.mem_cons, List.not_mem_nil, or_false] at hm
      rcases hm with z | z | z | z
      · exact absurd (z ▸ hlt) (Nat.not_lt.mpr (Nat.le_add_right _ _))
      · exact absurd (z ▸ hlt) (Nat.not_lt.mpr (Nat.le_add_right _ _))
      · exact absurd (z ▸ hlt) (Nat.lt_irrefl _)
      · exact absurd (z ▸ hlt) (Nat.not_lt.mpr (Nat.le_add_right _ _))
    exact ⟨.ref g.objs.size, upd H1 g.objs.size (.dK (mergeK [] (ks.zip ys))), I1.laid (t' := tk) kpt big (show ObjOk X.prog X.w _ _ _ (.dK (mergeK [] (ks.zip ys))) from ⟨hlen, hm, merged [] (ks.zip ya), KV.merge (kv_zip rv2) .nil, dct⟩), rfl, q _ (I1.hok.fresh big)⟩
theorem r_dz {σ : L2.St} {H : Hp} {Q : VK} (q : ta σ H (kDZ K Q)) : tDZ K ta σ H Q := q
theorem r_kDZ {H : Hp} {Q : VK} {a b : Addr} {ks : List Key} {ys : List V} (h1 : SqT K H a (ks.map kV)) (h2 : SqT K H b ys) (hl : ks.length = ys.length) (hz : ks.length ≤ 1000) (nd : ks.Nodup)
    (q : ∀ p H', H p = none → Same H H' → H' p = some (.dK (ks.zip ys)) → Q (.ref p) H') : kDZ K Q [.ref a, .ref b] H := by
  refine ⟨a, b, ks, ys, rfl, h1, h2, hl, hz, fun p hp => ?_⟩
  have e : mergeK [] (ks.zip ys) = ks.zip ys := mergeK_nil (by
    rw [List.map_fst_zip (by omega)]
    exact nd)
  rw [e]
  exact q p _ hp (Same.new hp) upd_same
end
end Wp
set_option Elab.async false
set_option linter.all false
set_option maxRecDepth 100000
set_option maxHeartbeats 4000000
/-! Lists of texts: what is in them. -/
namespace Wp
open PySem PySem.Spec PyProof.Rows L2
section
variable {X : Cx} {K : PySem.W.Frag} {H : Hp} {Q : VK} {p : Addr} {z : Str}
theorem flat_strs : ∀ xs : List Str, (xs.map V.str).all flatV = true
  | [] => rfl
  | _ :: r => by rw [List.map_cons, List.all_cons, flat_strs r]; rfl
theorem in_strs (x : Str) : ∀ xs : List Str, inV (.str x) (xs.map V.str) = decide (x ∈ xs)
  | [] => by simp [inV]
  | y :: r => by
    have ih := in_strs x r
    unfold inV at ih ⊢
    rw [List.map_cons, List.any_cons, ih]
    have e : eqV (.str y) (.str x) = decide (y = x) := rfl
    rw [e]
    by_cases h : y = x
    · simp [h]
    · have h' : ¬ x = y := fun z => h z.symm
      simp [h, h']
theorem r_notInS {x : Str} {xs : List Str} (h : SqL K H p (xs.map V.str)) (q : Q (.bl (!decide (x ∈ xs))) H) : rIn K true (.str x) (.ref p) H Q :=
  ⟨p, xs.map V.str, rfl, .inl h, rfl, flat_strs xs, by rw [in_strs]; exact q⟩
theorem r_inS {x : Str} {xs : List Str} (h : SqL K H p (xs.map V.str)) (q : Q (.bl (decide (x ∈ xs))) H) : rIn K false (.str x) (.ref p) H Q :=
  ⟨p, xs.map V.str, rfl, .inl h, rfl, flat_strs xs, by rw [in_strs]; exact q⟩
theorem strs_get {xs : List Str} {i : Nat} {x : V} (h : (xs.map V.str)[i]? = some x) : ∃ s, x = .str s ∧ xs[i]? = some s := by
  rw [List.getElem?_map] at h
  obtain ⟨s, hs, rfl⟩ := Option.map_eq_some_iff.mp h
  exact ⟨s, rfl, hs⟩
end
end Wp
set_option Elab.async false
set_option linter.all false
set_option maxRecDepth 100000
set_option maxHeartbeats 4000000
/-! Methods by their names; texts in tuples; sorted, list and dict of a dict; xs[::-1]; stars. -/
namespace Wp
open PySem PySem.Spec PyProof.Rows L2
/-- a method that keeps the promise -/
structure Dm (P : Program) (w : World) (K : PySem.W.Frag) (mg : Str → Option Value) (base : Heap) (CX : CXT) (k : Nat) (C : Addr) (m : Str) (sp : Sp) : Prop where
  ex : ∃ (f : Addr) (fd : FuncData) (ps : List Str), Meth K C m f ∧ FnOk P w K mg base CX k f fd ps sp ∧ Binds K fd ps []
  cl : Cls K C
def kMeth (C : Addr) (m : Str) (sp : Sp) (E : XK) (t : TA) (σ : L2.St) (Q : VK) : VK := fun x H1 => ∃ a dx fs, x = .ref a ∧ H1 a = some (.ins C dx fs) ∧ fs.lookup m = none ∧ t σ H1 fun vs H2 => sp (x :: (vs ++ [])) H2 Q E
section
variable {X : Cx} {CX : CXT} {k : Nat} {C a dx : Addr} {m : Str} {sp : Sp} {E : XK} {o e : Expr} {es : List Expr} {apos pos : Pos} {ta : TE} {t : TA} {fs : List (Str × V)}
theorem pe_mt {pl : Sem Bool} (D : Dm X.prog X.w X.K X.mg X.base CX k C m sp) (hr : Room k X.A) (hx : Passes CX X E) (ho : PE X o ta) (ha : PA X (e :: es) t)
    (hst : starEach (e :: es) X.env = (false, eval e X.env) :: starEach es X.env := by rfl) (hpl : (backTo pos (starEach es X.env)).any (·.1) = false := by rfl)
    (ht : eval (.Call (.Attribute o m apos) (e :: es) [] pos) X.env = (do
      let ov ← eval o X.env
      standAt apos.atName
      let (f, first) ← holding [ov] (getMethod ov m pl)
      callWith pos f first (backTo pos (starEach (e :: es) X.env)) (backToKw pos (keywordEach [] X.env))) := by rfl) :
    PE X (.Call (.Attribute o m apos) (e :: es) [] pos) (tMeth C m sp [] E ta t) := by
  obtain ⟨f, fd, ps, h1, h2, h3⟩ := D.ex
  exact pe_meth ho D.cl h1 h2 hr h3 .nil hx ha hst hpl ht
theorem pe_mt0 {pl : Sem Bool} (D : Dm X.prog X.w X.K X.mg X.base CX k C m sp) (hr : Room k X.A) (hx : Passes CX X E) (ho : PE X o ta)
    (ht : eval (.Call (.Attribute o m apos) [] [] pos) X.env = (do
      let ov ← eval o X.env
      standAt apos.atName
      let (f, first) ← holding [ov] (getMethod ov m pl)
      callWith pos f first (backTo pos (starEach [] X.env)) (backToKw pos (keywordEach [] X.env))) := by rfl) :
    PE X (.Call (.Attribute o m apos) [] [] pos) (tMeth C m sp [] E ta tNil) := by
  obtain ⟨f, fd, ps, h1, h2, h3⟩ := D.ex
  exact pe_meth0 ho D.cl h1 h2 hr h3 .nil hx ht
theorem r_meth {σ : L2.St} {H : Hp} {Q : VK} (q : ta σ H (kMeth C m sp E t σ Q)) : tMeth C m sp [] E ta t σ H Q := q
theorem r_kMeth {σ : L2.St} {H : Hp} {Q : VK} (h : H a = some (.ins C dx fs)) (l : fs.lookup m = none) (q : t σ H fun vs H2 => sp (.ref a :: vs) H2 Q E) : kMeth C m sp E t σ Q (.ref a) H := by
  refine ⟨a, dx, fs, rfl, h, l, ?_⟩
  have e : (fun (vs : List V) (H2 : Hp) => sp (.ref a :: (vs ++ [])) H2 Q E) = fun vs H2 => sp (.ref a :: vs) H2 Q E := by
    funext vs H2
    rw [List.append_nil]
  rw [e]
  exact q
end
section
variable {K : PySem.W.Frag} {H : Hp} {Q : VK} {p q : Addr} {x : Str} {xs ys : List Str} {kvs : List (Key × V)}
theorem r_notInTS (h : SqT K H p (xs.map V.str)) (k : Q (.bl (!decide (x ∈ xs))) H) : rIn K true (.str x) (.ref p) H Q := by
  refine ⟨p, _, rfl, .inr h, rfl, flat_strs xs, ?_⟩
  rw [in_strs]
  exact k
theorem r_inTS (h : SqT K H p (xs.map V.str)) (k : Q (.bl (decide (x ∈ xs))) H) : rIn K false (.str x) (.ref p) H Q := by
  refine ⟨p, _, rfl, .inr h, rfl, flat_strs xs, ?_⟩
  rw [in_strs]
  exact k
/-! sorted, list, dict of a dict -/
def rSortedD : List V → Hp → VK → Prop := fun vs H Q => ∃ (a : Addr) (kvs : List (Key × V)) (ks : List Str), vs = [.ref a] ∧ Rd H a (.dK kvs) ∧ kvs.map (·.1) = ks.map Sum.inr ∧ ks.length < 64 ∧
  ∀ ys p, ys.Perm ks → sortedS ys = true → H p = none → Q (.ref p) (upd H p (.lst (ys.map V.str)))
theorem c_sortedD {X : Cx} (hc : X.calm = true) : CallR X (.builtin "sorted") rSortedD := call_sortedD hc
theorem r_sortedD {ks : List Str} (h : H p = some (.dK kvs)) (e : kvs.map (·.1) = ks.map Sum.inr) (hl : ks.length < 64) (k : ∀ ys q H', ys.Perm ks → sortedS ys = true → H q = none → Same H H' → H' q = some (.lst (ys.map V.str)) → Q (.ref q) H') : rSortedD [.ref p] H Q :=
  ⟨p, kvs, ks, rfl, .inl h, e, hl, fun ys q h1 h2 hq => k ys q _ h1 h2 hq (Same.new hq) upd_same⟩
def rListD' : List V → Hp → VK → Prop := fun vs H Q => ∃ (a : Addr) (kvs : List (Key × V)), vs = [.ref a] ∧ Rd H a (.dK kvs) ∧ ∀ p, H p = none → Q (.ref p) (upd H p (.lst (kvs.map fun kv => kV kv.1)))
theorem c_listD {X : Cx} (hc : X.calm = true) : CallR X (.type "list") rListD' := call_listD hc
theorem r_listD (h : H p = some (.dK kvs)) (k : ∀ q H', H q = none → Same H H' → H' q = some (.lst (kvs.map fun kv => kV kv.1)) → Q (.ref q) H') : rListD' [.ref p] H Q :=
  ⟨p, kvs, rfl, .inl h, fun q hq => k q _ hq (Same.new hq) upd_same⟩
def rDictD' : List V → Hp → VK → Prop := fun vs H Q => ∃ (a : Addr) (kvs : List (Key × V)), vs = [.ref a] ∧ Rd H a (.dK kvs) ∧ ∀ p, H p = none → Q (.ref p) (upd H p (.dK kvs))
theorem c_dictD {X : Cx} : CallR X (.type "dict") rDictD' := call_dictD
theorem r_dictD (h : H p = some (.dK kvs)) (k : ∀ q H', H q = none → Same H H' → H' q = some (.dK kvs) → Q (.ref q) H') : rDictD' [.ref p] H Q :=
  ⟨p, kvs, rfl, .inl h, fun q hq => k q _ hq (Same.new hq) upd_same⟩
theorem r_sumT {zs : List Int} (h : SqT K H p (zs.map V.int)) (k : Q (.int zs.sum) H) : rSumT K [.ref p] H Q := ⟨p, zs, rfl, h, k⟩
end
section
variable {X : Cx} {K : PySem.W.Frag} {H : Hp} {Q : VK} {a : Addr} {xs : List V} {σ : L2.St} {te : TE} {tr : TA}
/-! xs[::-1] -/
def kRevL (K : PySem.W.Frag) (Q : VK) : VK := fun x H1 => ∃ a xs, x = .ref a ∧ SqL K H1 a xs ∧ ∀ p, H1 p = none → Q (.ref p) (upd H1 p (.lst xs.reverse))
theorem pe_revLK {e : Expr} {k : Nat} {p1 p2 p3 pos : Pos} (h : X.K = K) (he : PE X e te) : PE X (.Subscript e (.Slice none none (some (.UnaryOp .USub (.Constant (.int 1) k p1) p2)) p3) pos) (tRevL K te) := by
  subst h
  exact pe_revL he
theorem r_revL (q : te σ H (kRevL K Q)) : tRevL K te σ H Q := q
theorem r_kRevL (h : SqL K H a xs) (q : ∀ p H', H p = none → Same H H' → H' p = some (.lst xs.reverse) → Q (.ref p) H') : kRevL K Q (.ref a) H := ⟨a, xs, rfl, h, fun p hp => q p _ hp (Same.new hp) upd_same⟩
/-! stars -/
def kStar (K : PySem.W.Frag) (t : TA) (σ : L2.St) (QA : List V → Hp → Prop) : VK := fun x H1 => ∃ p xs, x = V.ref p ∧ (SqT K H1 p xs ∨ SqL K H1 p xs) ∧ t σ H1 fun ys H2 => QA (xs ++ ys) H2
theorem pa_starK {e : Expr} {es : List Expr} {p : Pos} (h : X.K = K) (he : PE X e te) (hr : PA X es tr) (hs : starEach (.Starred e p :: es) X.env = (true, eval e X.env) :: starEach es X.env := by rfl) : PA X (.Starred e p :: es) (StX.tStar K te tr) := by
  subst h
  exact StX.pa_star he hr hs
theorem r_star {QA : List V → Hp → Prop} (q : te σ H (kStar K tr σ QA)) : StX.tStar K te tr σ H QA := q
theorem r_kStarL {QA : List V → Hp → Prop} (h : SqL K H a xs) (q : tr σ H fun ys H2 => QA (xs ++ ys) H2) : kStar K tr σ QA (.ref a) H := ⟨a, xs, rfl, .inr h, q⟩
theorem r_kStarT {QA : List V → Hp → Prop} (h : SqT K H a xs) (q : tr σ H fun ys H2 => QA (xs ++ ys) H2) : kStar K tr σ QA (.ref a) H := ⟨a, xs, rfl, .inl h, q⟩
end
/-! == of texts and of tuples of ints -/
section
variable {K : PySem.W.Frag} {H : Hp} {Q : VK} {p q : Addr}
theorem dp_strs : ∀ ns : List Str, DpAll K H (ns.map V.str) (ns.map PyData.str)
  | [] => .nil
  | n :: r => .cons (.str n) (dp_strs r)
theorem r_eqTI {as bs : List Int} (h1 : SqT K H p (as.map V.int)) (h2 : SqT K H q (bs.map V.int)) (k : Q (.bl (decide (as = bs))) H) : rEqD K (.ref p) (.ref q) H Q := by
  have shp : ∀ ns : List Int, SeqAt.shaped (.tuple (ns.map PyData.int)) = true := fun ns => by
    show (PyData.canLayAll0 (ns.map PyData.int) && decide (PyData.depthAll (ns.map PyData.int) + 1 ≤ 64)) = true
    rw [lay_ints, dep_ints]
    rfl
  refine ⟨.tuple (as.map .int), .tuple (bs.map .int), .tup h1 (dp_ints as), .tup h2 (dp_ints bs), shp as, shp bs, ?_⟩
  show Q (.bl (PyData.eqvAll (as.map PyData.int) (bs.map PyData.int))) H
  rw [eqv_ints]
  exact k
end
end Wp
set_option linter.all false
/-! Names: one to eight small letters (plain Lean). -/
namespace Wp
open PySem PyProof.Rows L2
def Low (s : Str) : Prop := ∀ c ∈ s.cps.toList, 97 ≤ c ∧ c ≤ 122
structure NameOk (s : Str) : Prop where
  lo : 1 ≤ s.length
  hi : s.length ≤ 8
  low : Low s
def abc : Str := "abcdefghijklmnopqrstuvwxyz"
def pool : List Str := ["a", "b", "buy", "pay", "cash", "end", "free", "day", "laid", "zzzzzzzz", "rate", "statement"]
theorem abc_list : abc.cps.toList = [97, 98, 99, 100, 101, 102, 103, 104, 105, 106, 107, 108, 109, 110, 111, 112, 113, 114, 115, 116, 117, 118, 119, 120, 121, 122] := by decide +kernel
theorem abc_mem {c : Nat} : c ∈ abc.cps.toList ↔ 97 ≤ c ∧ c ≤ 122 := by
  rw [abc_list]
  simp only [List.mem_cons, List.not_mem_nil, or_false]
  omega
theorem abc_len : abc.length = 26 := by decide +kernel
theorem abc_at {i : Nat} {c : Nat} (h : abc.cps.toList[i]? = some c) : 97 ≤ c ∧ c ≤ 122 := abc_mem.mp (List.mem_of_getElem? h)
theorem split_pool : Txt.split "a b buy pay cash end free day laid zzzzzzzz rate statement" " " = pool := by decide +kernel
def lowB (s : Str) : Bool := decide (1 ≤ s.length) && s.cps.toList.all fun c => decide (97 ≤ c) && decide (c ≤ 122)
theorem lowB_ok {s : Str} (h : lowB s = true) : 1 ≤ s.length ∧ Low s := by
  simp only [lowB, Bool.and_eq_true, decide_eq_true_eq, List.all_eq_true] at h
  exact ⟨h.1, fun c hc => h.2 c hc⟩
theorem pool_ok : ∀ s ∈ pool, lowB s = true := by decide +kernel
theorem pool_len : ∀ s ∈ pool, s.length ≤ 9 := by decide +kernel
theorem cut_list (z : Str) (k : Nat) : (cutS z none (some (k : Int))).cps.toList = z.cps.toList.take k := by
  have h : z.length = z.cps.toList.length := by simp [Str.length]
  have e : HT.sIx z.length z.length (some (k : Int)) = min k z.length := by
    unfold HT.sIx
    simp only
    split <;> omega
  unfold cutS
  rw [e]
  have e0 : HT.sIx z.length 0 none = 0 := rfl
  rw [e0, List.drop_zero, Nat.sub_zero, List.toList_toArray, h, ← List.take_eq_take_min]
theorem cut_len (z : Str) (k : Nat) : (cutS z none (some (k : Int))).length = min k z.length := by
  have h : ∀ s : Str, s.length = s.cps.toList.length := fun s => by simp [Str.length]
  rw [h, cut_list, List.length_take, ← h]
theorem cut_low {z : Str} (k : Nat) (h : Low z) : Low (cutS z none (some (k : Int))) := fun c hc => by
  rw [cut_list] at hc
  exact h c (List.mem_of_mem_take hc)
theorem cut8 {z : Str} (h : 1 ≤ z.length) (hl : Low z) : NameOk (cutS z none (some 8)) :=
  have e : (cutS z none (some 8)).length = min 8 z.length := cut_len z 8
  ⟨by omega, by omega, cut_low 8 hl⟩
/-- the label's first seven signs and a letter -/
def near (z : Str) (c : Nat) : Str := cutS z none (some 7) ++ ⟨#[c]⟩
theorem near_list (z : Str) (c : Nat) : (near z c).cps.toList = z.cps.toList.take 7 ++ [c] := by
  unfold near
  rw [Str.cps_append, Array.toList_append, show (cutS z none (some 7)).cps.toList = z.cps.toList.take 7 from cut_list z 7]
theorem near_inj {z : Str} {c d : Nat} (h : near z c = near z d) : c = d := by
  have e := congrArg (fun s : Str => s.cps.toList) h
  simp only [near_list] at e
  have := List.append_cancel_left e
  simpa using this
theorem near_ok {z : Str} {c : Nat} (hl : Low z) (hc : 97 ≤ c ∧ c ≤ 122) : NameOk (near z c) := by
  have h : (near z c).length = (z.cps.toList.take 7).length + 1 := by
    have : (near z c).length = (near z c).cps.toList.length := by simp [Str.length]
    rw [this, near_list, List.length_append]
    rfl
  rw [List.length_take] at h
  refine ⟨by omega, by omega, fun d hd => ?_⟩
  rw [near_list] at hd
  rcases List.mem_append.mp hd with hd | hd
  · exact hl d (List.mem_of_mem_take hd)
  · rw [List.mem_singleton.mp hd]
    exact hc
theorem nodup_le {α : Type} [DecidableEq α] : ∀ {xs ys : List α}, xs.Nodup → (∀ x ∈ xs, x ∈ ys) → xs.length ≤ ys.length
  | [], _, _, _ => Nat.zero_le _
  | x :: xs, ys, hn, hs => by
    have hx := hs x (List.mem_cons_self ..)
    have h1 := (List.nodup_cons.mp hn).1
    have h2 := nodup_le (xs := xs) (ys := ys.erase x) (List.nodup_cons.mp hn).2 fun y hy => by
      refine (List.mem_erase_of_ne ?_).mpr (hs y (List.mem_cons_of_mem _ hy))
      rintro rfl
      exact h1 hy
    rw [List.length_erase_of_mem hx] at h2
    have : 0 < ys.length := List.length_pos_of_mem hx
    simp only [List.length_cons]
    omega
/-- one of the twenty-six is new -/
theorem near_new {z : Str} {found : List Str} (h : found.length < 26) : ∃ c, c ∈ abc.cps.toList ∧ near z c ∉ found := by
  by_cases hc : ∃ c, c ∈ abc.cps.toList ∧ near z c ∉ found
  · exact hc
  · have hall : ∀ s ∈ abc.cps.toList.map (near z), s ∈ found := by
      intro s hs
      obtain ⟨c, hc1, rfl⟩ := List.mem_map.mp hs
      by_cases hm : near z c ∈ found
      · exact hm
      · exact absurd ⟨c, hc1, hm⟩ hc
    have hnd : (abc.cps.toList.map (near z)).Nodup := by
      refine List.pairwise_map.mpr ?_
      have h0 : abc.cps.toList.Nodup := by
        rw [abc_list]
        decide
      exact List.Pairwise.imp (fun hne e => hne (near_inj e)) h0
    have := nodup_le hnd hall
    rw [List.length_map, abc_list] at this
    simp at this
    omega
theorem join_signs (cs : List Nat) : (Txt.join ⟨#[]⟩ (cs.map fun c => (⟨#[c]⟩ : Str))) = ⟨cs.toArray⟩ := by
  have h := join_nil_signs (⟨cs.toArray⟩ : Str)
  unfold Txt.join
  rw [PySem.StrLaws.glued_eq_join]
  exact h
theorem join_ok {cs : List Nat} (h1 : 1 ≤ cs.length) (h2 : cs.length ≤ 8) (hl : ∀ c ∈ cs, 97 ≤ c ∧ c ≤ 122) : NameOk (⟨cs.toArray⟩ : Str) := by
  have e : (⟨cs.toArray⟩ : Str).length = cs.length := by simp [Str.length]
  exact ⟨by omega, by omega, fun c hc => hl c (by simpa using hc)⟩
/-- names, all unlike -/
structure NamesOk (xs : List Str) : Prop where
  ok : ∀ x ∈ xs, NameOk x
  nd : xs.Nodup
theorem NamesOk.nil : NamesOk [] := ⟨fun _ h => (by cases h), List.nodup_nil⟩
theorem NamesOk.snoc {xs : List Str} {x : Str} (h : NamesOk xs) (hx : NameOk x) (hn : x ∉ xs) : NamesOk (xs ++ [x]) :=
  ⟨fun y hy => by
    rcases List.mem_append.mp hy with hy | hy
    · exact h.ok y hy
    · rw [List.mem_singleton.mp hy]
      exact hx, by
    refine List.nodup_append.mpr ⟨h.nd, by simp, fun a ha b hb => ?_⟩
    rw [List.mem_singleton.mp hb]
    rintro rfl
    exact hn ha⟩
end Wp
set_option Elab.async false
set_option linter.all false
set_option maxRecDepth 100000
set_option maxHeartbeats 4000000
/-! Books: their parts, the dict of parts, slices of lengths. -/
namespace Wp
open PySem PySem.Spec PyProof.Rows L2
/-- kinds: a dict of names, each to a rate and whether it is free -/
inductive KAt (H : Hp) : List (Key × V) → List (Str × Int × Bool) → Prop
  | nil : KAt H [] []
  | cons {n : Str} {r : Int} {b : Bool} {t : Addr} {kvs : List (Key × V)} {ks : List (Str × Int × Bool)} : H t = some (.tup [.int r, .bl b]) → KAt H kvs ks → KAt H ((Sum.inr n, .ref t) :: kvs) ((n, r, b) :: ks)
theorem KAt.keep {H H' : Hp} {kvs : List (Key × V)} {ks : List (Str × Int × Bool)} (h : KAt H kvs ks) (e : ∀ t xs, H t = some (.tup xs) → H' t = some (.tup xs)) : KAt H' kvs ks := by
  induction h with
  | nil => exact .nil
  | cons h _ ih => exact .cons (e _ _ h) ih
theorem KAt.len {H : Hp} {kvs : List (Key × V)} {ks : List (Str × Int × Bool)} (h : KAt H kvs ks) : kvs.length = ks.length := by
  induction h with
  | nil => rfl
  | cons _ _ ih => simp [ih]
theorem KAt.keys {H : Hp} {kvs : List (Key × V)} {ks : List (Str × Int × Bool)} (h : KAt H kvs ks) : kvs.map (·.1) = (ks.map (·.1)).map Sum.inr := by
  induction h with
  | nil => rfl
  | cons _ _ ih => simp [ih]
theorem KAt.get {H : Hp} {kvs : List (Key × V)} {ks : List (Str × Int × Bool)} (h : KAt H kvs ks) : ∀ {i : Nat} {k : Key} {v : V}, kvs[i]? = some (k, v) → ∃ n r b t, k = Sum.inr n ∧ v = .ref t ∧ H t = some (.tup [.int r, .bl b]) ∧ ks[i]? = some (n, r, b) := by
  induction h with
  | nil => intro i k v e; simp at e
  | @cons n r b t kvs ks h _ ih =>
    intro i k v e
    cases i with
    | zero =>
      have e := Option.some.inj e
      cases e
      exact ⟨n, r, b, t, rfl, rfl, h, rfl⟩
    | succ i =>
      obtain ⟨n', r', b', t', h1, h2, h3, h4⟩ := ih (i := i) (by simpa using e)
      exact ⟨n', r', b', t', h1, h2, h3, by simpa using h4⟩
theorem KAt.val {H : Hp} {kvs : List (Key × V)} {ks : List (Str × Int × Bool)} (h : KAt H kvs ks) (nd : (ks.map (·.1)).Nodup) : ∀ {n : Str} {r : Int} {b : Bool}, (n, r, b) ∈ ks → ∃ t, valV kvs (Sum.inr n) = some (.ref t) ∧ H t = some (.tup [.int r, .bl b]) := by
  induction h with
  | nil => intro n r b e; cases e
  | @cons n r b t kvs ks h _ ih =>
    intro n' r' b' e
    rw [List.map_cons, List.nodup_cons] at nd
    rcases List.mem_cons.mp e with e | e
    · cases e
      exact ⟨t, by simp [valV], h⟩
    · obtain ⟨t', h1, h2⟩ := ih nd.2 e
      have hne : n ≠ n' := by
        rintro rfl
        exact nd.1 (List.mem_map.mpr ⟨_, e, rfl⟩)
      exact ⟨t', by rw [valV_neg (fun z => hne (Sum.inr.inj z))]; exact h1, h2⟩
theorem KAt.snoc {H : Hp} {kvs : List (Key × V)} {ks : List (Str × Int × Bool)} {n : Str} {r : Int} {b : Bool} {t : Addr} (h : KAt H kvs ks) (ht : H t = some (.tup [.int r, .bl b])) : KAt H (kvs ++ [(Sum.inr n, .ref t)]) (ks ++ [(n, r, b)]) := by
  induction h with
  | nil => exact .cons ht .nil
  | cons h _ ih => exact .cons h ih
theorem KAt.fresh {H : Hp} {kvs : List (Key × V)} {ks : List (Str × Int × Bool)} {n : Str} (h : KAt H kvs ks) (hn : n ∉ ks.map (·.1)) : valV kvs (Sum.inr n) = none := by
  induction h with
  | nil => rfl
  | @cons n' r b t kvs ks h _ ih =>
    rw [List.map_cons, List.mem_cons, not_or] at hn
    rw [valV_neg (fun z => hn.1 (Sum.inr.inj z).symm)]
    exact ih hn.2
structure KindsOk (ks : List (Str × Int × Bool)) : Prop where
  lo : 1 ≤ ks.length
  hi : ks.length ≤ 6
  nm : NamesOk (ks.map (·.1))
  rt : ∀ k ∈ ks, 0 ≤ k.2.1 ∧ k.2.1 ≤ 1000
/-- a book -/
structure Bk where
  ls : List Int
  due : Int
  ks : List (Str × Int × Bool)
  mem : Int
  beg : Str
  laid : Option (List Str)
structure Bk.Ok (B : Bk) : Prop where
  l1 : 1 ≤ B.ls.length
  l2 : B.ls.length ≤ 4
  l3 : ∀ n ∈ B.ls, 2 ≤ n ∧ n ≤ 31
  d0 : 0 ≤ B.due
  d1 : ∀ n ∈ B.ls, B.due < n
  kn : KindsOk B.ks
  m0 : 0 ≤ B.mem
  m1 : B.mem ≤ 2
  bg : B.beg = "day" ∨ B.beg = "statement"
def fBook (tl kd : Addr) (B : Bk) (lv : V) : List (Str × V) := [("b_lengths", .ref tl), ("b_due", .int B.due), ("b_kinds", .ref kd), ("b_memory", .int B.mem), ("b_begins", .str B.beg), ("b_laid", lv)]
/-- a tuple that is known to have no dict of its own: its methods can be called -/
def FrzT (H : Hp) (t : Addr) (xs : List V) : Prop := ∃ o : Obj, o.dict = none ∧ H t = some (.frz o (.tup xs))
theorem FrzT.keep {H H' : Hp} {t : Addr} {xs : List V} (h : FrzT H t xs) (e : ∀ t o xs, H t = some (.frz o (.tup xs)) → H' t = some (.frz o (.tup xs))) : FrzT H' t xs := by
  obtain ⟨o, h1, h2⟩ := h
  exact ⟨o, h1, e _ _ _ h2⟩
theorem FrzT.same {H H' : Hp} {t : Addr} {xs : List V} (h : FrzT H t xs) (e : Same H H') : FrzT H' t xs := h.keep fun t o xs q => e _ _ q
theorem FrzT.sq {K : PySem.W.Frag} {H : Hp} {t : Addr} {xs : List V} (h : FrzT H t xs) : SqT K H t xs := by
  obtain ⟨o, _, h2⟩ := h
  exact .inl (.inr ⟨o, h2⟩)
/-- tuple(list), with what is known of the new object -/
def rTupF (K : PySem.W.Frag) : List V → Hp → VK → Prop := fun xs H Q => ∃ p ys, xs = [.ref p] ∧ SqL K H p ys ∧ ∀ (l : Addr) (o : Obj), H l = none → o.dict = none → Q (.ref l) (upd H l (.frz o (.tup ys)))
theorem c_tupleF {X : Cx} {K : PySem.W.Frag} (h : X.K = K) : CallR X (.type "tuple") (rTupF K) := by
  subst h
  intro pins s σ H xs us Q I r h
  obtain ⟨p, ys, rfl, hq, q⟩ := h
  obtain ⟨u, rfl, rx⟩ := vals1 r
  cases rx
  obtain ⟨its, r', pl, hz⟩ := I.list hq
  have hlen := r'.length
  refine call_tuple_list pl.isList (fun h' kp => ?_) (by simp only [List.size_toArray] <;> omega)
  have I1 : Inv X pins σ H { s with heap := h' } := I.kept (t' := s.toks) kp
  have I2 : Inv X pins σ (upd H h'.objs.size (.frz { cls := .type "tuple", data := .seq its.toArray } (.tup ys))) { s with heap := h'.push { cls := .type "tuple", data := .seq its.toArray } } :=
    I1.laid (t' := s.toks) (fun b o e => Heap.get?_push_of_some _ e) (Nat.le_refl _) (show ObjOk X.prog X.w _ _ _ (.frz _ (.tup ys)) from ⟨Heap.get?_push_size _ rfl, hz, its, r', IsTup.new _ _⟩)
  exact ⟨.ref h'.objs.size, _, I2, rfl, q _ _ (I1.hok.fresh (Nat.le_refl _)) rfl⟩
theorem r_tupF {K : PySem.W.Frag} {H : Hp} {Q : VK} {p : Addr} {xs : List V} (h : SqL K H p xs) (k : ∀ t H', H t = none → Same H H' → FrzT H' t xs → Q (.ref t) H') : rTupF K [.ref p] H Q :=
  ⟨p, xs, rfl, h, fun t o ht ho => k t _ ht (Same.new ht) ⟨o, ho, upd_same⟩⟩
def LaidV (H : Hp) : Option (List Str) → V → Prop
  | none, v => v = .non
  | some ns, v => ∃ t, v = .ref t ∧ FrzT H t (ns.map V.str)
theorem LaidV.keep {H H' : Hp} {o : Option (List Str)} {v : V} (h : LaidV H o v) (e : ∀ t o xs, H t = some (.frz o (.tup xs)) → H' t = some (.frz o (.tup xs))) : LaidV H' o v := by
  cases o with
  | none => exact h
  | some ns =>
    obtain ⟨t, rfl, ht⟩ := h
    exact ⟨t, rfl, ht.keep e⟩
/-- a book stands at p, its parts at tl, kd and lv -/
structure BookIn (C : Addr) (H : Hp) (p : Addr) (B : Bk) (dx tl kd : Addr) (lv : V) (kvs : List (Key × V)) : Prop where
  i : H p = some (.ins C dx (fBook tl kd B lv))
  l : H tl = some (.tup (B.ls.map V.int))
  k : H kd = some (.dK kvs)
  a : KAt H kvs B.ks
  d : LaidV H B.laid lv
def BookAt (C : Addr) (H : Hp) (p : Addr) (B : Bk) : Prop := ∃ dx tl kd lv kvs, BookIn C H p B dx tl kd lv kvs
theorem BookIn.keep {C p dx tl kd : Addr} {H H' : Hp} {B : Bk} {lv : V} {kvs : List (Key × V)} (h : BookIn C H p B dx tl kd lv kvs) (e : Same H H') : BookIn C H' p B dx tl kd lv kvs :=
  ⟨e _ _ h.i, e _ _ h.l, e _ _ h.k, h.a.keep fun t xs q => e _ _ q, h.d.keep fun t o xs q => e _ _ q⟩
theorem BookAt.keep {C p : Addr} {H H' : Hp} {B : Bk} (h : BookAt C H p B) (e : Same H H') : BookAt C H' p B := by
  obtain ⟨dx, tl, kd, lv, kvs, h⟩ := h
  exact ⟨dx, tl, kd, lv, kvs, h.keep e⟩
/-! the dict of the six parts -/
def wkv (a b c d e f : V) : List (Key × V) := [(Sum.inr ("lengths" : Str), a), (Sum.inr ("due" : Str), b), (Sum.inr ("kinds" : Str), c), (Sum.inr ("memory" : Str), d), (Sum.inr ("begins" : Str), e), (Sum.inr ("laid" : Str), f)]
def wks : List Key := [Sum.inr ("lengths" : Str), Sum.inr ("due" : Str), Sum.inr ("kinds" : Str), Sum.inr ("memory" : Str), Sum.inr ("begins" : Str), Sum.inr ("laid" : Str)]
theorem wks_nd : wks.Nodup := by decide +kernel
theorem kne {x y : Str} (h : decide (x = y) = false) : ¬ (Sum.inr x : Key) = Sum.inr y := fun z => of_decide_eq_false h (Sum.inr.inj z)
section
variable {a b c d e f x : V}
theorem wz_zip : wks.zip [a, b, c, d, e, f] = wkv a b c d e f := rfl
theorem wv1 : valV (wkv a b c d e f) (Sum.inr ("lengths" : Str)) = some a := valV_pos rfl
theorem wv2 : valV (wkv a b c d e f) (Sum.inr ("due" : Str)) = some b := by
  unfold wkv
  rw [valV_neg (kne (by decide +kernel)), valV_pos rfl]
theorem wv3 : valV (wkv a b c d e f) (Sum.inr ("kinds" : Str)) = some c := by
  unfold wkv
  rw [valV_neg (kne (by decide +kernel)), valV_neg (kne (by decide +kernel)), valV_pos rfl]
theorem wv4 : valV (wkv a b c d e f) (Sum.inr ("memory" : Str)) = some d := by
  unfold wkv
  rw [valV_neg (kne (by decide +kernel)), valV_neg (kne (by decide +kernel)), valV_neg (kne (by decide +kernel)), valV_pos rfl]
theorem wv5 : valV (wkv a b c d e f) (Sum.inr ("begins" : Str)) = some e := by
  unfold wkv
  rw [valV_neg (kne (by decide +kernel)), valV_neg (kne (by decide +kernel)), valV_neg (kne (by decide +kernel)), valV_neg (kne (by decide +kernel)), valV_pos rfl]
theorem wv6 : valV (wkv a b c d e f) (Sum.inr ("laid" : Str)) = some f := by
  unfold wkv
  rw [valV_neg (kne (by decide +kernel)), valV_neg (kne (by decide +kernel)), valV_neg (kne (by decide +kernel)), valV_neg (kne (by decide +kernel)), valV_neg (kne (by decide +kernel)), valV_pos rfl]
theorem wput {k : Key} (h : (valV (wkv a b c d e f) k).isSome = true) : putK (wkv a b c d e f) k x = (wkv a b c d e f).map (fun kv => if kv.1 = k then (kv.1, x) else kv) := by
  unfold putK
  rw [if_pos (by rw [valV_any]; exact h)]
theorem wp1 : putK (wkv a b c d e f) (Sum.inr ("lengths" : Str)) x = wkv x b c d e f := by
  rw [wput (by rw [wv1]; rfl)]
  simp only [wkv, List.map_cons, List.map_nil, if_pos trivial, if_neg (kne (x := "due") (y := "lengths") (by decide +kernel)), if_neg (kne (x := "kinds") (y := "lengths") (by decide +kernel)), if_neg (kne (x := "memory") (y := "lengths") (by decide +kernel)), if_neg (kne (x := "begins") (y := "lengths") (by decide +kernel)), if_neg (kne (x := "laid") (y := "lengths") (by decide +kernel))]
theorem wp2 : putK (wkv a b c d e f) (Sum.inr ("due" : Str)) x = wkv a x c d e f := by
  rw [wput (by rw [wv2]; rfl)]
  simp only [wkv, List.map_cons, List.map_nil, if_pos trivial, if_neg (kne (x := "lengths") (y := "due") (by decide +kernel)), if_neg (kne (x := "kinds") (y := "due") (by decide +kernel)), if_neg (kne (x := "memory") (y := "due") (by decide +kernel)), if_neg (kne (x := "begins") (y := "due") (by decide +kernel)), if_neg (kne (x := "laid") (y := "due") (by decide +kernel))]
theorem wp3 : putK (wkv a b c d e f) (Sum.inr ("kinds" : Str)) x = wkv a b x d e f := by
  rw [wput (by rw [wv3]; rfl)]
  simp only [wkv, List.map_cons, List.map_nil, if_pos trivial, if_neg (kne (x := "lengths") (y := "kinds") (by decide +kernel)), if_neg (kne (x := "due") (y := "kinds") (by decide +kernel)), if_neg (kne (x := "memory") (y := "kinds") (by decide +kernel)), if_neg (kne (x := "begins") (y := "kinds") (by decide +kernel)), if_neg (kne (x := "laid") (y := "kinds") (by decide +kernel))]
theorem wp4 : putK (wkv a b c d e f) (Sum.inr ("memory" : Str)) x = wkv a b c x e f := by
  rw [wput (by rw [wv4]; rfl)]
  simp only [wkv, List.map_cons, List.map_nil, if_pos trivial, if_neg (kne (x := "lengths") (y := "memory") (by decide +kernel)), if_neg (kne (x := "due") (y := "memory") (by decide +kernel)), if_neg (kne (x := "kinds") (y := "memory") (by decide +kernel)), if_neg (kne (x := "begins") (y := "memory") (by decide +kernel)), if_neg (kne (x := "laid") (y := "memory") (by decide +kernel))]
theorem wp5 : putK (wkv a b c d e f) (Sum.inr ("begins" : Str)) x = wkv a b c d x f := by
  rw [wput (by rw [wv5]; rfl)]
  simp only [wkv, List.map_cons, List.map_nil, if_pos trivial, if_neg (kne (x := "lengths") (y := "begins") (by decide +kernel)), if_neg (kne (x := "due") (y := "begins") (by decide +kernel)), if_neg (kne (x := "kinds") (y := "begins") (by decide +kernel)), if_neg (kne (x := "memory") (y := "begins") (by decide +kernel)), if_neg (kne (x := "laid") (y := "begins") (by decide +kernel))]
theorem wp6 : putK (wkv a b c d e f) (Sum.inr ("laid" : Str)) x = wkv a b c d e x := by
  rw [wput (by rw [wv6]; rfl)]
  simp only [wkv, List.map_cons, List.map_nil, if_pos trivial, if_neg (kne (x := "lengths") (y := "laid") (by decide +kernel)), if_neg (kne (x := "due") (y := "laid") (by decide +kernel)), if_neg (kne (x := "kinds") (y := "laid") (by decide +kernel)), if_neg (kne (x := "memory") (y := "laid") (by decide +kernel)), if_neg (kne (x := "begins") (y := "laid") (by decide +kernel))]
end
/-- a permutation of images is the image of a permutation -/
theorem perm_lift {α β : Type} [DecidableEq α] (f : α → β) : ∀ (ys : List β) (ks : List α), ys.Perm (ks.map f) → ∃ ms : List α, ms.Perm ks ∧ ms.map f = ys
  | [], ks, h => by
    have e : ks = [] := List.map_eq_nil_iff.mp (List.Perm.nil_eq h).symm
    subst e
    exact ⟨[], .nil, rfl⟩
  | y :: r, ks, h => by
    obtain ⟨k, hk, rfl⟩ := List.mem_map.mp (h.mem_iff.mp (List.mem_cons_self ..))
    have h2 : (f k :: r).Perm (f k :: (ks.erase k).map f) := h.trans (((List.perm_cons_erase hk).map f))
    obtain ⟨ms, p, e⟩ := perm_lift f r (ks.erase k) (List.Perm.cons_inv h2)
    exact ⟨k :: ms, (p.cons k).trans (List.perm_cons_erase hk).symm, by rw [List.map_cons, e]⟩
/-! slices and sums of lengths -/
theorem cutV_take {xs : List V} {i : Int} (h0 : 0 ≤ i) : cutV xs none (some i) = xs.take i.toNat := by
  have e : HT.sIx xs.length xs.length (some i) = min i.toNat xs.length := by
    show (if i < 0 then (i + (xs.length : Int)).toNat else min i.toNat xs.length) = _
    rw [if_neg (by omega)]
  unfold cutV
  rw [e]
  show (xs.drop 0).take (min i.toNat xs.length - 0) = _
  rw [List.drop_zero, Nat.sub_zero]
  by_cases h : i.toNat ≤ xs.length
  · rw [Nat.min_eq_left h]
  · rw [Nat.min_eq_right (by omega), List.take_length, List.take_of_length_le (by omega)]
section
variable {K : PySem.W.Frag} {H : Hp} {Q : VK} {p : Addr} {xs : List V}
theorem r_slT_take {i : Int} (h : SqT K H p xs) (h0 : 0 ≤ i) (h1 : i < xs.length) (q : ∀ t H', H t = none → Same H H' → H' t = some (.tup (xs.take i.toNat)) → Q (.ref t) H') : rSlT K (.ref p) none (some i) H Q := by
  refine ⟨p, xs, rfl, h, ?_, fun t ht => ?_⟩
  · rintro ⟨_, e⟩
    have e2 : (if i < 0 then (i + (xs.length : Int)).toNat else min i.toNat xs.length) = xs.length := e
    rw [if_neg (by omega)] at e2
    omega
  · rw [cutV_take h0]
    exact q t _ ht (Same.new ht) upd_same
theorem r_minSeq {ns : List Int} (h : SeqV K H p (ns.map V.int)) (h0 : 0 < ns.length) (k : ∀ m, m ∈ ns → (∀ y ∈ ns, m ≤ y) → Q (.int m) H) : rEither (rMin K) (rMinT K) [.ref p] H Q := by
  rcases h with h | h
  · exact .inl ⟨p, ns, rfl, h, h0, fun m hm hy => k m hm hy⟩
  · exact .inr ⟨p, ns, rfl, h, h0, fun m hm hy => k m hm hy⟩
theorem r_tupOf (h : H p = some (.lst xs) ∨ H p = some (.tup xs)) (k : ∀ t H', Same H H' → H' t = some (.tup xs) → Q (.ref t) H') : rTupOf K [.ref p] H Q := by
  rcases h with h | h
  · exact ⟨p, xs, rfl, .inl ⟨SqL.of h, fun t ht => k t _ (Same.new ht) upd_same⟩⟩
  · exact ⟨p, xs, rfl, .inr ⟨SqT.of h, k p H (Same.refl _) h⟩⟩
end
namespace Bk
/-- the first day of a month -/
def first (B : Bk) (m : Int) : Int := m / (B.ls.length : Int) * B.ls.sum + (B.ls.take (m % (B.ls.length : Int)).toNat).sum
def rateOf (B : Bk) (n : Str) : Int := ((B.ks.find? fun k => decide (k.1 = n)).map (·.2.1)).getD 0
def freeOf (B : Bk) (n : Str) : Bool := ((B.ks.find? fun k => decide (k.1 = n)).map (·.2.2)).getD false
theorem find_of : ∀ {ks : List (Str × Int × Bool)} {n : Str} {r : Int} {b : Bool}, (ks.map (·.1)).Nodup → (n, r, b) ∈ ks → (ks.find? fun k => decide (k.1 = n)) = some (n, r, b)
  | [], _, _, _, _, h => by cases h
  | k :: ks, n, r, b, nd, h => by
    rw [List.map_cons, List.nodup_cons] at nd
    rcases List.mem_cons.mp h with e | e
    · subst e
      simp
    · have hne : ¬ k.1 = n := fun z => nd.1 (by rw [z]; exact List.mem_map.mpr ⟨_, e, rfl⟩)
      rw [List.find?_cons, decide_eq_false hne]
      exact find_of nd.2 e
end Bk
end Wp
set_option Elab.async false
set_option linter.all false
set_option maxRecDepth 100000
set_option maxHeartbeats 4000000
namespace Wp
open PySem PySem.Spec PyProof.Rows L2
abbrev s_is_list : Stmt := topS 22
abbrev s_is_name : Stmt := topS 23
abbrev s_are_lengths : Stmt := topS 24
abbrev s_is_kind : Stmt := topS 25
abbrev s_are_kinds : Stmt := topS 26
local macro_rules | `(tactic| walk_at "val") => `(tactic| assumption)
local macro_rules | `(tactic| walk_at "rd1") => `(tactic| first
  | with_reducible refine r_seq ?_ | with_reducible refine r_next ?_ | with_reducible refine r_if ?_ | with_reducible refine r_asg ?_ | with_reducible refine r_gname ?_
  | with_reducible refine r_ret ?_ | with_reducible refine r_retN ?_ | with_reducible refine r_drop ?_ | with_reducible refine r_par ?_ | with_reducible refine r_kPar ?_
  | ((with_reducible refine' r_var ?hv ?_); (case hv => exact rfl)) | with_reducible refine r_c ?_ | with_reducible refine r_nil ?_ | with_reducible refine r_cons ?_
  | with_reducible refine r_fn ?_ | with_reducible refine r_cb ?_ | with_reducible refine r_op ?_ | with_reducible refine r_un ?_ | with_reducible refine r_I0 ?_
  | with_reducible refine r_pow5 ?_ | with_reducible refine r_pow6 ?_ | with_reducible refine r_pow7 ?_ | with_reducible refine r_pow9 ?_ | with_reducible refine r_pow18 ?_ | with_reducible refine r_pow20 ?_ | with_reducible refine r_pow30 ?_
  | with_reducible refine r_isN_non ?_ | with_reducible refine r_isN_ref ?_ | with_reducible refine r_isN_int ?_ | with_reducible refine r_isN_str ?_ | with_reducible refine r_isN_bl ?_ | with_reducible refine r_notN_non ?_ | with_reducible refine r_notN_ref ?_ | with_reducible refine r_notN_int ?_ | with_reducible refine r_notN_str ?_ | with_reducible refine r_notN_bl ?_
  | ((with_reducible refine r_I ?hc ?_); (case hc => walk_at "side")) | with_reducible refine r_U ?_
  | with_reducible refine r_eqI ?_ | with_reducible refine r_neI ?_ | with_reducible refine r_eqS ?_ | with_reducible refine r_neS ?_ | with_reducible refine r_eqB ?_ | with_reducible refine r_neB ?_
  | with_reducible refine r_chain ?_ | with_reducible refine r_test ?_ | with_reducible refine r_tB ?_ | with_reducible refine r_kTest ?_ | with_reducible refine r_not ?_
  | with_reducible refine r_and ?_ | with_reducible refine r_or ?_ | with_reducible refine r_tif ?_ | with_reducible refine r_andV ?_ | with_reducible refine r_orV ?_ | with_reducible refine r_notV ?_
  | with_reducible refine r_kAndV ?_ | with_reducible refine r_kOrV ?_ | with_reducible refine r_kNotV ?_
  | with_reducible refine w_T ?_ | with_reducible refine w_F ?_ | with_reducible refine w_NT ?_ | with_reducible refine w_NF ?_
  | with_reducible refine r_tup ?_ | with_reducible refine r_lst ?_ | with_reducible refine r_fld ?_ | with_reducible refine r_prop ?_ | ((with_reducible refine' r_aug ?h1 ?_); (case h1 => exact rfl)) | with_reducible refine r_ipI ?_ | with_reducible refine r_dget ?_ | with_reducible refine r_dput ?_ | with_reducible refine r_bm ?_
  | ((with_reducible refine' r_kDGetS ?h1 ?h2 ?_); (case h1 => assumption); (case h2 => walk_at "val"))
  | ((with_reducible refine' r_kBML ?h1 ?_); (case h1 => assumption))
  | with_reducible refine r_forL ?_ | with_reducible refine r_forR1 ?_ | with_reducible refine r_forR2 ?_ | with_reducible refine r_forT ?_ | with_reducible refine r_lcL ?_ | with_reducible refine r_lcR1 ?_
  | ((with_reducible refine r_kLcG ?hw ?_); (case hw => exact rfl)) | with_reducible refine r_kLcT ?_ | with_reducible refine r_yes ?_
  | with_reducible refine r_pnil ?_ | with_reducible refine r_pcons ?_
  | with_reducible refine r_fnK ?_ | ((with_reducible refine r_kFnK ?hl ?_); (case hl => exact rfl))
  | with_reducible refine r_isi_ii ?_ | with_reducible refine r_isi_ib ?_ | with_reducible refine r_isi_bi ?_ | with_reducible refine r_isi_bb ?_ | with_reducible refine r_isi_ss ?_ | with_reducible refine r_isi_is ?_ | with_reducible refine r_isi_it ?_
  | ((with_reducible refine' r_isi_tt ?h1 ?_); (case h1 => assumption))
  | with_reducible refine r_sfld ?_ | with_reducible refine r_gnil ?_ | with_reducible refine r_gcons ?_
  | ((with_reducible refine' r_gtup ?h1 ?h2 ?_); (case h1 => exact SqT.of (by assumption)); (case h2 => exact rfl))
  | with_reducible refine r_sl ?_ | with_reducible refine r_noPart ?_ | with_reducible refine r_part ?_ | with_reducible refine r_kPart ?_ | with_reducible refine r_m1 ?_ | with_reducible refine r_kM1 ?_ | with_reducible refine r_forS ?_ | with_reducible refine r_lcS ?_ | with_reducible refine r_lcTu ?_ | with_reducible refine r_lcK ?_ | with_reducible refine r_dcL ?_ | with_reducible refine r_dcK ?_ | with_reducible refine r_lc2L ?_ | with_reducible refine r_kLc2TL ?_ | with_reducible refine r_dcEn ?_ | with_reducible refine r_gslc ?_ | with_reducible refine r_lcEn ?_ | with_reducible refine r_lcEl ?_ | with_reducible refine r_lcR2 ?_ | with_reducible refine r_rg1 ?_ | with_reducible refine r_forET ?_ | with_reducible refine r_lenD ?_
  | ((with_reducible refine r_kDcG ?hw ?_); (case hw => exact rfl)) | with_reducible refine r_kDcT ?_
  | with_reducible refine r_fldaug ?_ | with_reducible refine r_daug ?_ | with_reducible refine r_rAdd ?_ | with_reducible refine r_rSub ?_ | with_reducible refine r_ddel ?_ | with_reducible refine r_bmF ?_ | with_reducible refine r_dget2 ?_ | with_reducible refine r_listItems ?_ | with_reducible refine r_bm0 ?_ | with_reducible refine r_lc2E ?_ | ((with_reducible refine r_kLc2G ?hw ?_); (case hw => exact rfl)) | with_reducible refine r_kLc2T ?_ | with_reducible refine r_forE ?_ | with_reducible refine r_orT ?_ | with_reducible refine r_din ?_ | with_reducible refine r_augS ?_ | with_reducible refine r_dnotin ?_ | with_reducible refine r_lcIT ?_ | with_reducible refine r_cont ?_ | with_reducible refine r_meth ?_ | with_reducible refine r_frz ?_ | with_reducible refine r_par3 ?_ | with_reducible refine r_kPar3 ?_ | with_reducible refine r_dz ?_ | with_reducible refine r_revL ?_ | with_reducible refine r_star ?_ | with_reducible refine r_int1 ?_ | with_reducible refine r_int1b ?_ | with_reducible refine r_min2 ?_ | with_reducible refine r_max2 ?_ | with_reducible refine r_gsub ?_)
local macro_rules | `(tactic| walk_at "rd") => `(tactic| repeat walk_at "rd1")
local macro_rules | `(tactic| walk_at "side") => `(tactic| first | assumption | exact Or.inr ⟨by decide, by decide⟩ | exact Or.inl ⟨by decide, by decide⟩ | (constructor <;> omega) | omega | decide | (refine Or.inl ⟨?_, ?_⟩ <;> omega) | (refine Or.inr ⟨?_, ?_⟩ <;> omega) | (refine ⟨?_, ?_, ?_⟩ <;> first | decide | omega))
def sp_is_list (K : PySem.W.Frag) : Sp := fun vs H Q _ => ∃ (p : Addr) (xs : List V), vs = [.ref p] ∧ SeqV K H p xs ∧ ∀ H', Same H H' → Q (.bl true) H'
def sp_is_name : Sp := fun vs H Q _ => ∃ (z : Str), vs = [.str z] ∧ NameOk z ∧ ∀ H', Same H H' → Q (.bl true) H'
def sp_are_lengths (K : PySem.W.Frag) : Sp := fun vs H Q _ => ∃ (p : Addr) (ns : List Int), vs = [.ref p] ∧ SeqV K H p (ns.map V.int) ∧ 1 ≤ ns.length ∧ ns.length ≤ 4 ∧ (∀ n ∈ ns, 2 ≤ n ∧ n ≤ 31) ∧ ∀ H', Same H H' → Q (.bl true) H'
def sp_is_kind : Sp := fun vs H Q _ => ∃ (t : Addr) (r : Int) (b : Bool), vs = [.ref t] ∧ H t = some (.tup [.int r, .bl b]) ∧ 0 ≤ r ∧ r ≤ 1000 ∧ Q (.bl true) H
def sp_are_kinds : Sp := fun vs H Q _ => ∃ (a : Addr) (kvs : List (Key × V)) (ks : List (Str × Int × Bool)), vs = [.ref a] ∧ H a = some (.dK kvs) ∧ KAt H kvs ks ∧ KindsOk ks ∧ ∀ H', Same H H' → Q (.bl true) H'
section
variable {P : Program} {w : World} {K : PySem.W.Frag} {mg : Str → Option Value} {base : Heap}
theorem ok_is_list {f : Addr} {fd : FuncData} (T : Tx K mg) (F : FnP K "is_list" s_is_list f fd) : FnOk P w K mg base CX0 1 f fd ["value"] (sp_is_list K) := by
  have sc : FnScope ["value"] ["value"] (defScope s_is_list) := ⟨rfl, rfl, rfl, by decide +kernel, rfl, by decide +kernel, by decide +kernel⟩
  refine F.ok sc (by rintro vs H Q E ⟨_, _, rfl, _⟩; rfl) (fun cdv A outer s H vs Q E hr h => ⟨_, PSs.nox ((pss_one (ps_ret (pe_callB (c_isiTK (K := K) rfl) (by rfl) T.b_isinstance (by decide +kernel) (pa_cons (pv 0) (pa_cons (pe_tup (pa_cons (pe_bltn (v := .ty "list") (by rfl) T.b_list (by decide +kernel) rfl) (pa_cons (pe_bltn (v := .ty "tuple") (by rfl) T.b_tuple (by decide +kernel) rfl) pa_nil))) pa_nil)))))), ?_⟩)
  obtain ⟨p, xs, rfl, h, k⟩ := h
  walk_at "rd"
  refine r_kTup fun tp H1 np e1 hp => ?_
  walk_at "rd"
  exact r_isSeq (h.same e1) hp (k H1 e1)
theorem ok_is_name {f : Addr} {fd : FuncData} (T : Tx K mg) (F : FnP K "is_name" s_is_name f fd) : FnOk P w K mg base CX0 1 f fd ["value"] sp_is_name := by
  have sc : FnScope ["value", "sign"] ["value"] (defScope s_is_name) := ⟨rfl, rfl, rfl, by decide +kernel, rfl, by decide +kernel, by decide +kernel⟩
  refine F.ok sc (by rintro vs H Q E ⟨_, rfl, _⟩; rfl) (fun cdv A outer s H vs Q E hr h => ⟨_, PSs.nox ((pss_one (ps_ret (pe_and (pe_callB (c_isiK (K := K) rfl) (by rfl) T.b_isinstance (by decide +kernel) (pa_cons (pv 0) (pa_cons (pe_bltn (v := .ty "str") (by rfl) T.b_str (by decide +kernel) rfl) pa_nil))) (pe_and (pe_chain op_le op_le pe_int (pe_callB (c_lenK (K := K) rfl) (by rfl) T.b_len (by decide +kernel) (pa_cons (pv 0) pa_nil)) (pe_glob (v := .int 8) (by rfl) T.c_MOST_NAME.choose_spec ⟨_, rfl⟩)) (pe_one (pe_callB (c_allK (K := K) rfl rfl) (by rfl) T.b_all (by decide +kernel) (pa_cons (pe_lc (own := [("sign", 1)]) (by rfl) sc.nd (pi_str (pv 0)) (blkOk_by (own := [("sign", 1)]) (N := ["value", "sign"]) (sc := defScope s_is_name) (by decide +kernel)) (fun _ _ _ _ _ => (pg_name (i := 1) sc.nd rfl (by first | exact Or.inl rfl | exact Or.inr rfl))) (fun _ _ _ _ _ => pts_nil) (fun _ _ _ _ _ => (pe_cmpR op_in_sign (pv 1) (pe_glob (v := .str "abcdefghijklmnopqrstuvwxyz") (by rfl) T.c_LETTERS.choose_spec ⟨_, rfl⟩) (by rfl)))) pa_nil)))))))), ?_⟩)
  obtain ⟨z, rfl, ok, k⟩ := h
  have h1 := ok.lo
  have h2 := ok.hi
  walk_at "rd"
  refine r_lenS (by omega) ?_
  walk_at "rd"
  refine r_kChain (fun _ => ?_) (fun hf => absurd (of_decide_eq_false hf) (by omega))
  walk_at "rd"
  refine w_yes (decide_eq_true (by omega)) ?_
  walk_at "rd"
  refine r_kLcS (fun Da i H' => Same H H' ∧ H' Da = some (.lst ((List.replicate i true).map V.bl))) (fun Da H' _ e h => ⟨e, h⟩) ?_ ?_
  · rintro Da i c H' hD hc ⟨e, h⟩
    walk_at "rd"
    refine r_inSign ?_
    have hcl : i < z.cps.size := (Array.getElem?_eq_some_iff.mp hc).1
    have hzl : z.length = z.cps.size := rfl
    have hm : c ∈ abc.cps.toList := abc_mem.mpr (ok.low c (by
      have : z.cps.toList[i]? = some c := by rw [Array.getElem?_toList]; exact hc
      exact List.mem_of_getElem? this))
    rw [decide_eq_true (show c ∈ (Str.ofString "abcdefghijklmnopqrstuvwxyz").cps.toList from hm)]
    refine r_kLcE h (by rw [List.length_map, List.length_replicate]; omega) fun H1 b1 h1 => ⟨Same.mut e b1 hD, ?_⟩
    rw [rep_more]
    exact h1
  · rintro Da H' hD ⟨e, h⟩
    walk_at "rd"
    refine r_all (SqL.of h) ?_
    rw [all_rep]
    exact k H' e
theorem ok_are_lengths {f : Addr} {fd : FuncData} (T : Tx K mg) (F : FnP K "are_lengths" s_are_lengths f fd) (d_is_list : Dn P w K mg base CX0 1 "is_list" ["value"] (sp_is_list K)) (d_is_number_in : Dn P w K mg base CX0 2 "is_number_in" ["value", "least", "most"] (sp_is_number_in K)) :
    FnOk P w K mg base CX0 3 f fd ["value"] (sp_are_lengths K) := by
  have sc : FnScope ["value", "length"] ["value"] (defScope s_are_lengths) := ⟨rfl, rfl, rfl, by decide +kernel, rfl, by decide +kernel, by decide +kernel⟩
  refine F.ok sc (by rintro vs H Q E ⟨_, _, rfl, _⟩; rfl) (fun cdv A outer s H vs Q E hr h => ⟨_, PSs.nox ((pss_cons (ps_if (PW.pt (pw_or (pt_not (pt_val (pe_fn d_is_list (hr.mono (by decide)) pass0 (pa_cons (pv 0) pa_nil)))) (pw_or1 (pt_not (pt_chain op_le op_le pe_int (pe_callB (c_lenK (K := K) rfl) (by rfl) T.b_len (by decide +kernel) (pa_cons (pv 0) pa_nil)) (pe_glob (v := .int 4) (by rfl) T.c_MOST_LENGTHS.choose_spec ⟨_, rfl⟩)))))) (pss_one (ps_ret pe_bl)) pss_nil)
      (pss_one (ps_ret (pe_callB (c_allK (K := K) rfl rfl) (by rfl) T.b_all (by decide +kernel) (pa_cons (pe_lc (own := [("length", 1)]) (by rfl) sc.nd (pi_either (pi_listK (K := K) rfl (pv 0)) (pi_tupK (K := K) rfl (pv 0))) (blkOk_by (own := [("length", 1)]) (N := ["value", "length"]) (sc := defScope s_are_lengths) (by decide +kernel)) (fun _ _ _ _ _ => (pg_name (i := 1) sc.nd rfl (by first | exact Or.inl rfl | exact Or.inr rfl))) (fun _ _ _ _ _ => pts_nil) (fun _ _ _ _ _ => (pe_fn d_is_number_in (hr.mono (by decide)) pass0 (pa_cons (pv 1) (pa_cons (pe_glob (v := .int 2) (by rfl) T.c_SHORTEST.choose_spec ⟨_, rfl⟩) (pa_cons (pe_glob (v := .int 31) (by rfl) T.c_LONGEST.choose_spec ⟨_, rfl⟩) pa_nil)))))) pa_nil)))))), ?_⟩)
  obtain ⟨p, ns, rfl, hS, h1, h2, hn, k⟩ := h
  walk_at "rd"
  refine ⟨p, _, rfl, hS, fun H1 e1 => ?_⟩
  walk_at "rd"
  refine r_lenSeq (hS.same e1) ?_
  rw [List.length_map]
  walk_at "rd"
  refine r_kChain (fun _ => ?_) (fun hf => absurd (of_decide_eq_false hf) (by omega))
  walk_at "rd"
  refine w_no (by rw [decide_eq_true (by omega)]; rfl) ?_
  walk_at "rd"
  refine r_lcEither (xs := ns.map V.int) (hS.same e1) rfl (fun Da i H' => Same H1 H' ∧ H' Da = some (.lst ((List.replicate i true).map V.bl))) (fun Da H' _ e h => ⟨e, h⟩) (fun Da i H' h => ⟨(hS.same e1).same h.1, h.1⟩) ?_ ?_ (fun H' e h => SqL.same e h) (fun H' e h => SqT.same e h)
  · rintro Da i x H' hD hx ⟨e, h⟩
    obtain ⟨n, rfl, hi⟩ := ints_get hx
    have hm := hn n (List.mem_of_getElem? hi)
    have hil := (List.getElem?_eq_some_iff.mp hi).1
    walk_at "rd"
    refine u_in hm ?_
    refine r_kLcE h (by rw [List.length_map, List.length_replicate]; omega) fun H2 b2 h2 => ⟨Same.mut e b2 hD, ?_⟩
    rw [rep_more]
    exact h2
  · rintro Da H' hD ⟨e, h⟩
    walk_at "rd"
    refine r_all (SqL.of h) ?_
    rw [all_rep]
    exact k H' (e1.trans e)
theorem ok_is_kind {f : Addr} {fd : FuncData} (T : Tx K mg) (F : FnP K "is_kind" s_is_kind f fd) (d_is_number_in : Dn P w K mg base CX0 2 "is_number_in" ["value", "least", "most"] (sp_is_number_in K)) :
    FnOk P w K mg base CX0 3 f fd ["value"] sp_is_kind := by
  have sc : FnScope ["value"] ["value"] (defScope s_is_kind) := ⟨rfl, rfl, rfl, by decide +kernel, rfl, by decide +kernel, by decide +kernel⟩
  refine F.ok sc (by rintro vs H Q E ⟨_, _, _, rfl, _⟩; rfl) (fun cdv A outer s H vs Q E hr h => ⟨_, PSs.nox ((pss_cons (ps_if (PW.pt (pw_or (pt_not (pt_val (pe_callB (c_isiK (K := K) rfl) (by rfl) T.b_isinstance (by decide +kernel) (pa_cons (pv 0) (pa_cons (pe_bltn (v := .ty "tuple") (by rfl) T.b_tuple (by decide +kernel) rfl) pa_nil))))) (pw_or1 (pt_cmpR op_ne (pe_callB (c_lenK (K := K) rfl) (by rfl) T.b_len (by decide +kernel) (pa_cons (pv 0) pa_nil)) pe_int (nomark _))))) (pss_one (ps_ret pe_bl)) pss_nil)
      (pss_one (ps_ret (pe_and (pe_fn d_is_number_in (hr.mono (by decide)) pass0 (pa_cons (pe_ix (ix_tupK (K := K) rfl) (pv 0) pe_int (fun _ _ => rfl)) (pa_cons pe_int (pa_cons (pe_glob (v := .int 1000) (by rfl) T.c_MOST_RATE.choose_spec ⟨_, rfl⟩) pa_nil)))) (pe_one (pe_callB (c_isiK (K := K) rfl) (by rfl) T.b_isinstance (by decide +kernel) (pa_cons (pe_ix (ix_tupK (K := K) rfl) (pv 0) pe_int (fun _ _ => rfl)) (pa_cons (pe_bltn (v := .ty "bool") (by rfl) T.b_bool (by decide +kernel) rfl) pa_nil))))))))), ?_⟩)
  obtain ⟨t, r, b, rfl, ht, h0, h1, q⟩ := h
  walk_at "rd"
  refine r_lenT (SqT.of ht) ?_
  walk_at "rd"
  refine w_ndec (fun hne => absurd rfl hne) (fun _ => ?_)
  walk_at "rd"
  refine r_ixT (SqT.of ht) (at_get (n := 0) rfl rfl) ?_
  walk_at "rd"
  refine u_in ⟨h0, h1⟩ ?_
  walk_at "rd"
  refine r_ixT (SqT.of ht) (at_get (n := 1) rfl rfl) ?_
  walk_at "rd"
  exact q
theorem ok_are_kinds {f : Addr} {fd : FuncData} (T : Tx K mg) (F : FnP K "are_kinds" s_are_kinds f fd) (d_is_name : Dn P w K mg base CX0 1 "is_name" ["value"] sp_is_name) (d_is_kind : Dn P w K mg base CX0 3 "is_kind" ["value"] sp_is_kind) :
    FnOk P w K mg base CX0 4 f fd ["value"] sp_are_kinds := by
  have sc : FnScope ["value", "name"] ["value"] (defScope s_are_kinds) := ⟨rfl, rfl, rfl, by decide +kernel, rfl, by decide +kernel, by decide +kernel⟩
  refine F.ok sc (by rintro vs H Q E ⟨_, _, _, rfl, _⟩; rfl) (fun cdv A outer s H vs Q E hr h => ⟨_, PSs.nox ((pss_cons (ps_if (PW.pt (pw_or (pt_not (pt_val (pe_callB (c_isiK (K := K) rfl) (by rfl) T.b_isinstance (by decide +kernel) (pa_cons (pv 0) (pa_cons (pe_bltn (v := .ty "dict") (by rfl) T.b_dict (by decide +kernel) rfl) pa_nil))))) (pw_or1 (pt_not (pt_chain op_le op_le pe_int (pe_callB c_lenD (by rfl) T.b_len (by decide +kernel) (pa_cons (pv 0) pa_nil)) (pe_glob (v := .int 6) (by rfl) T.c_MOST_KINDS.choose_spec ⟨_, rfl⟩)))))) (pss_one (ps_ret pe_bl)) pss_nil)
      (pss_one (ps_ret (pe_callB (c_allK (K := K) rfl rfl) (by rfl) T.b_all (by decide +kernel) (pa_cons (pe_lock (pe_lc (own := [("name", 1)]) (by rfl) sc.nd (pi_keys (pv 0)) (blkOk_by (own := [("name", 1)]) (N := ["value", "name"]) (sc := defScope s_are_kinds) (by decide +kernel)) (fun _ _ _ _ _ => (pg_name (i := 1) sc.nd rfl (by first | exact Or.inl rfl | exact Or.inr rfl))) (fun _ _ _ _ _ => pts_nil) (fun _ _ _ _ _ => (pe_and (pe_fn d_is_name (hr.mono (by decide)) pass0 (pa_cons (pv 1) pa_nil)) (pe_one (pe_fn d_is_kind (hr.mono (by decide)) pass0 (pa_cons (pe_dget (hu_of hr) (pv 0) (pv 1) (fun _ _ => rfl)) pa_nil))))))) pa_nil)))))), ?_⟩)
  obtain ⟨a, kvs, ks, rfl, ha, hK, ok, k⟩ := h
  have hl := hK.len
  have h1 := ok.lo
  have h2 := ok.hi
  walk_at "rd"
  refine r_isiDict ha ?_
  walk_at "rd"
  refine r_lenD ha ?_
  walk_at "rd"
  refine r_kChain (fun _ => ?_) (fun hf => absurd (of_decide_eq_false hf) (by omega))
  walk_at "rd"
  refine w_no (by rw [decide_eq_true (by omega)]; rfl) ?_
  walk_at "rd"
  refine r_lockD ha fun od H1 hd1 ho1 hn1 => ?_
  walk_at "rd"
  refine r_kLcK hd1 (fun Da i H' => Same H1 H' ∧ H' Da = some (.lst ((List.replicate i true).map V.bl))) (fun Da H' _ e h => ⟨e, h⟩) (fun Da i H' h => h.1 _ _ hd1) ?_ ?_
  · rintro Da i key v H' hD hi ⟨e, h⟩
    obtain ⟨n, r, b, t, rfl, rfl, ht, hks⟩ := hK.get hi
    have hmem := List.mem_of_getElem? hks
    have hil := (List.getElem?_eq_some_iff.mp hks).1
    have nok : NameOk n := ok.nm.ok n (List.mem_map.mpr ⟨_, hmem, rfl⟩)
    obtain ⟨t', hv, ht'⟩ := hK.val ok.nm.nd hmem
    have hne : t' ≠ a := ne_of ht' ha (by intro z; cases z)
    walk_at "rd"
    refine ⟨n, rfl, nok, fun H2 e2 => ?_⟩
    walk_at "rd"
    refine r_kDGetF (e2 _ _ (e _ _ hd1)) hv ?_
    walk_at "rd"
    refine ⟨t', r, b, rfl, e2 _ _ (e _ _ (ho1 _ _ ht' hne)), (ok.rt _ hmem).1, (ok.rt _ hmem).2, ?_⟩
    refine r_kLcE (e2 _ _ h) (by rw [List.length_map, List.length_replicate]; omega) fun H3 b3 h3 => ⟨Same.mut (e.trans e2) b3 hD, ?_⟩
    rw [rep_more]
    exact h3
  · rintro Da H' hD ⟨e, h⟩
    walk_at "rd"
    have hDa : Da ≠ a := by
      rintro rfl
      rw [hd1] at hD
      cases hD
    refine r_kLock ha ho1 hd1 e fun H2 e2 k2 => ?_
    walk_at "rd"
    refine r_all (SqL.of (k2 _ _ h hDa)) ?_
    rw [all_rep]
    exact k H2 e2
end
end Wp
set_option Elab.async false
set_option linter.all false
set_option maxRecDepth 100000
set_option maxHeartbeats 4000000
/-! sorted of a list or a tuple of data that are alike: one list. -/
namespace Wp
open PySem PySem.Spec PyProof.Rows L2
section
variable {prog : Program} {w : World} {A : Around} {E : Value → Shared → Prop} {s : Shared} {l : Addr} {vs : List Value}
theorem collectT {Q : List Value → Shared → Prop} (hl : s.heap.IsTuple l vs.toArray) (hz : vs.length ≤ sizeLine)
    (h : Q vs { s with heap := (s.heap.push (seqObj "list" #[] 0)).update s.heap.objs.size (Obj.mapSeq (· ++ vs.toArray)) }) : wpAny (model prog w) A (collect (.ref l)) Q E s := by
  obtain ⟨o, ho, hc, n, hd⟩ := hl
  have up := Heap.get?_push_of_some (seqObj "list" #[] 0) ho
  have own : (s.heap.push (seqObj "list" #[] 0)).get? s.heap.objs.size = some (seqObj "list" #[] 0) := Heap.get?_push_size _ rfl
  unfold collect
  refine wpAny_bind (wpAny_runValue (codeAny_builtin entry_proto_collect' ?_))
  show wpAny (model prog w) A.in1 (do again (.builtin "list.__iadd__" ⟨[← newList [], .ref l], []⟩)) _ _ s
  refine wpAny_bind (wpAny_newList (wpAny_pure ⟨Code.quiet_builtin _ (by decide +kernel), codeAny_builtin entry_list_iadd' ?_⟩))
  show wpAny (model prog w) _ (Builtin.List.listExtendWith (.ref s.heap.objs.size) (.ref l) (.ref s.heap.objs.size)) _ _ { s with heap := s.heap.push (seqObj "list" #[] 0) }
  unfold Builtin.List.listExtendWith
  refine wpAny_bind (wpAny_typeOf (T := "tuple") ⟨o, up, hc⟩ ?_)
  have tt : (Value.type "tuple" == Value.type "tuple") = true := by rfl
  rw [if_pos (by rw [tt, Bool.or_true])]
  refine wpAny_bind (listItems_at up hd (wpAny_bind (listItems_at (n := 0) own rfl ?_)))
  rw [if_neg (by simp)]
  refine wpAny_bind (listUpdate_at (n := 0) own rfl (wpAny_pure ?_) (Nat.zero_le _) ?_)
  · show wpAny (model prog w) A (load s.heap.objs.size >>= fun o => match o.data with | .seq xs _ => pure xs.toList | _ => unsupported "internal:collect") Q E _
    refine wpAny_bind (wpAny_load (get?_update_seq own _) ?_)
    have e : ((#[] : Array Value) ++ vs.toArray).toList = vs := by simp
    show wpAny (model prog w) A (pure ((#[] : Array Value) ++ vs.toArray).toList) Q E _
    rw [e]
    exact wpAny_pure h
  · show ((#[] : Array Value) ++ vs.toArray).size ≤ sizeLine + 1
    simp
    omega
theorem sortedT_of {Q : Value → Shared → Prop} (hl : s.heap.IsTuple l vs.toArray) (hz : vs.length ≤ sizeLine)
    (body : ∀ E' : Value → Shared → Prop, wpAny (model prog w) A.in1.in1 (Builtin.«list.sort» ⟨[.ref (s.heap.objs.size + 1)], []⟩) (fun r t => r = .done (.ret .none) ∧ Q (.ref (s.heap.objs.size + 1)) t) E' { s with heap := PySem.W.copyHeap s.heap vs }) :
    wpAny (model prog w) A (call (.builtin "sorted") [.ref l]) Q E s := by
  refine Calls.call_function_entry kind_sorted plain_sorted entry_sorted (args_sorted1 _) ?_
  unfold Builtin.«sorted»
  refine wpAny_bind (m := checkCount "sorted" 1 1 _) (wpAny_pure (wpAny_bind (collectT hl hz (wpAny_bind (wpAny_newList ?_ hz)))))
  have sz : ((s.heap.push (seqObj "list" #[] 0)).update s.heap.objs.size (Obj.mapSeq (· ++ vs.toArray))).objs.size = s.heap.objs.size + 1 := by
    rw [Heap.size_update, size_push']
  show wpAny (model prog w) _ _ _ _ { s with heap := PySem.W.copyHeap s.heap vs }
  rw [sz]
  refine wpAny_bind (wpAny_holding (wpAny_call_entry slot_list_sort ⟨_, PySem.W.copyHeap_at s.heap vs, rfl⟩ entry_list_sort ?_ (args_list_sort _)))
  refine wpAny_mono (body _) (fun r t hr => ?_) fun _ _ e => e
  obtain ⟨rfl, q⟩ := hr
  exact ⟨_, rfl, wpAny_pure ⟨_, rfl, q⟩⟩
theorem sortedT_data {β : Type} {R : Value → β → Prop} {enc : β → PyData} {bs : List β} {Q : Value → Shared → Prop} (hl : s.heap.IsTuple l vs.toArray) (e : PySem.W.EachIs R vs bs) (er : PySem.W.EachIs (fun v b => ∃ as, Reads s.heap v (enc b) as) vs bs) (hal : PySem.W.AllAlike (bs.map enc)) (hk : PySem.W.Sortable (bs.map enc)) (hL : bs.length ≤ sizeLine)
    (hu : ∀ b, b ∈ bs → A.units + 2 + (enc b).depth < cLine) (h : ∀ out, out.length = bs.length → PySem.W.EachIs R out (bs.mergeSort (PySem.W.dataLe false enc)) → Q (.ref (s.heap.objs.size + 1)) { s with heap := sortedAll s.heap vs (List.toArray out) }) :
    wpAny (model prog w) A (call (.builtin "sorted") [.ref l]) Q E s := by
  have hL2 : vs.length ≤ sizeLine := by rw [e.length]; exact hL
  have er2 : PySem.W.EachIs (fun v b => ∃ as, Reads (PySem.W.sortingHeap (PySem.W.copyHeap s.heap vs) (s.heap.objs.size + 1) vs) v (enc b) as) vs bs := er.mono fun _ _ ⟨as, r⟩ => ⟨as, PyProof.Rows.Reads.keeps (fun _ _ => PySem.W.sorting_copy_old) r⟩
  have S := PySem.W.SortsAt.data (prog := prog) (w := w) (A := A.in1.in1) (s := { s with heap := PySem.W.sortingHeap (PySem.W.copyHeap s.heap vs) (s.heap.objs.size + 1) vs }) (PySem.W.each_map (R := fun v d => ∃ as, Reads (PySem.W.sortingHeap (PySem.W.copyHeap s.heap vs) (s.heap.objs.size + 1) vs) v d as) enc er2) hal hk (PySem.W.bound_map hu)
  refine sortedT_of hl hL2 fun _ => PySem.W.list_sort_vals (s := { s with heap := PySem.W.copyHeap s.heap vs }) (PySem.W.copyHeap_at s.heap vs) S hL2 ⟨rfl, ?_⟩
  exact h _ (by rw [PySem.W.sortVals_length false rfl]; exact e.length) (PySem.W.sortVals_data false e er2 hal)
end
/-- sorted of alike data -/
def srtV (xs : List V) (ds : List PyData) : List V := ((xs.zip ds).mergeSort (PySem.W.dataLe false (·.2))).map (·.1)
def rSortD (K : PySem.W.Frag) : List V → Hp → VK → Prop := fun vs H Q => ∃ (a : Addr) (xs : List V) (ds : List PyData), vs = [.ref a] ∧ SeqV K H a xs ∧ DpAll K H xs ds ∧ PySem.W.AllAlike ds ∧ PySem.W.Sortable ds ∧ xs.length ≤ 1000000 ∧ (∀ d ∈ ds, d.depth ≤ 20) ∧
  ∀ p, H p = none → Q (.ref p) (upd H p (.lst (srtV xs ds)))
theorem dpAll_len {K : PySem.W.Frag} {H : Hp} : ∀ {xs : List V} {ds : List PyData}, DpAll K H xs ds → xs.length = ds.length
  | _, _, .nil => rfl
  | _, _, .cons _ r => by simp [dpAll_len r]
theorem each_rel {X : Cx} {pins : List (Addr × Obj)} {σ : L2.St} {H : Hp} {s : Shared} (I : Inv X pins σ H s) : ∀ {xs : List V} {ds : List PyData} {us : List Value}, Vals xs us → DpAll X.K H xs ds →
    PySem.W.EachIs (fun (v : Value) (b : V × PyData) => RelV b.1 v) us (xs.zip ds) ∧ PySem.W.EachIs (fun (v : Value) (b : V × PyData) => ∃ as, Reads s.heap v b.2 as) us (xs.zip ds)
  | _, _, _, .nil, .nil => ⟨.nil, .nil⟩
  | _, _, _, .cons r rr, .cons d dd => by
    obtain ⟨h1, h2⟩ := each_rel I rr dd
    exact ⟨.cons r h1, .cons (Dp.reads I _ _ _ d r) h2⟩
theorem vals_each : ∀ {bs : List (V × PyData)} {us : List Value}, PySem.W.EachIs (fun (v : Value) (b : V × PyData) => RelV b.1 v) us bs → Vals (bs.map (·.1)) us
  | _, _, .nil => .nil
  | _, _, .cons r rr => .cons r (vals_each rr)
theorem map_snd_zip {xs : List V} {ds : List PyData} (h : xs.length = ds.length) : (xs.zip ds).map (fun b => b.2) = ds := List.map_snd_zip (by omega)
theorem c_sortD {X : Cx} {K : PySem.W.Frag} {k : Nat} (hK : X.K = K) (hr : Room k X.A) : CallR X (.builtin "sorted") (rSortD K) := by
  subst hK
  intro pins s σ H vs us Q I r h
  obtain ⟨a, xs, ds, rfl, hs, hd, al, so, hz, hdep, q⟩ := h
  have hlen := dpAll_len hd
  obtain ⟨u, rfl, ru⟩ := vals1 r
  obtain rfl : u = Value.ref a := ru
  have hu := hr.units
  have fin : ∀ (its : List Value), its.length = xs.length → ∀ out, out.length = (xs.zip ds).length → PySem.W.EachIs (fun (v : Value) (b : V × PyData) => RelV b.1 v) out ((xs.zip ds).mergeSort (PySem.W.dataLe false (·.2))) →
      EP X pins σ Q (.ref (s.heap.objs.size + 1)) { s with heap := sortedAll s.heap its (List.toArray out) } := by
    intro its hil out ho he
    obtain ⟨ep, at_⟩ := sortedAll_at s.heap its out.toArray
    refine ⟨.ref _, upd H (s.heap.objs.size + 1) (.lst (srtV xs ds)), I.laid (t' := s.toks) (fun _ _ => sortedAll_old) (Nat.le_succ _) ⟨?_, out, ep, vals_each he, at_⟩, rfl, q _ (I.hok.fresh (Nat.le_succ _))⟩
    unfold srtV
    rw [List.length_map, List.length_mergeSort, List.length_zip]
    exact sz5 (by omega)
  have al' : PySem.W.AllAlike ((xs.zip ds).map (fun b => b.2)) := by rw [map_snd_zip hlen]; exact al
  have so' : PySem.W.Sortable ((xs.zip ds).map (fun b => b.2)) := by rw [map_snd_zip hlen]; exact so
  have hL : (xs.zip ds).length ≤ sizeLine := by rw [List.length_zip]; exact sz5 (by omega)
  have hu2 : ∀ b, b ∈ xs.zip ds → X.A.units + 2 + b.2.depth < cLine := fun b hb => by
    have := hdep b.2 (List.of_mem_zip hb).2
    omega
  rcases hs with hs | hs
  · obtain ⟨its, rv, pl, _⟩ := I.list hs
    obtain ⟨e1, e2⟩ := each_rel I rv hd
    exact PySem.W.sorted_data pl.isList e1 e2 al' so' hL hu2 (fin its rv.length.symm)
  · obtain ⟨its, rv, pl, _⟩ := I.tuple hs
    obtain ⟨e1, e2⟩ := each_rel I rv hd
    exact sortedT_data (show s.heap.IsTuple a its.toArray from pl) e1 e2 al' so' hL hu2 (fin its rv.length.symm)
end Wp
set_option Elab.async false
set_option linter.all false
set_option maxRecDepth 100000
set_option maxHeartbeats 4000000
/-! What sorted makes of texts and of other data. -/
namespace Wp
open PySem PySem.Spec PyProof.Rows L2
theorem zip_maps {β : Type} (v : β → V) (e : β → PyData) : ∀ bs : List β, (bs.map v).zip (bs.map e) = bs.map fun b => (v b, e b)
  | [] => rfl
  | b :: r => by simp [zip_maps v e r]
theorem srt_map {β : Type} (bs : List β) (v : β → V) (e : β → PyData) : srtV (bs.map v) (bs.map e) = (bs.mergeSort (PySem.W.dataLe false e)).map v := by
  unfold srtV
  rw [zip_maps, ← List.map_mergeSort (r := PySem.W.dataLe false e) (s := PySem.W.dataLe false (fun b : V × PyData => b.2)) (f := fun b => (v b, e b)) (fun a _ b _ => rfl), List.map_map]
  rfl
def leS (a b : Str) : Bool := decide (a.cps.toList ≤ b.cps.toList)
theorem leS_eq : PySem.W.dataLe false PyData.str = leS := PySem.W.dataLe_str (fun b : Str => b)
theorem leS_trans (a b c : Str) (h1 : leS a b = true) (h2 : leS b c = true) : leS a c = true := decide_eq_true (List.le_trans (of_decide_eq_true h1) (of_decide_eq_true h2))
theorem leS_total (a b : Str) : (leS a b || leS b a) = true := by
  rcases List.le_total a.cps.toList b.cps.toList with h | h
  · rw [show leS a b = true from decide_eq_true h]
    rfl
  · rw [show leS b a = true from decide_eq_true h, Bool.or_true]
theorem leS_anti {a b : Str} (h1 : leS a b = true) (h2 : leS b a = true) : a = b := PySem.W.str_of_cps (List.le_antisymm (of_decide_eq_true h1) (of_decide_eq_true h2))
def srtS (xs : List Str) : List Str := xs.mergeSort leS
theorem srtS_perm (xs : List Str) : (srtS xs).Perm xs := List.mergeSort_perm xs leS
theorem srtS_asc (xs : List Str) : (srtS xs).Pairwise (fun a b => leS a b = true) := List.pairwise_mergeSort leS_trans leS_total xs
/-- two ascending arrangements are one -/
theorem asc_uniq {xs ys : List Str} (h1 : xs.Pairwise (fun a b => leS a b = true)) (h2 : ys.Pairwise (fun a b => leS a b = true)) (p : xs.Perm ys) : xs = ys := List.Perm.eq_of_pairwise (fun _ _ _ _ a b => leS_anti a b) h1 h2 p
theorem srtS_eq {xs ys : List Str} (h : xs.Perm ys) : srtS xs = srtS ys := asc_uniq (srtS_asc xs) (srtS_asc ys) ((srtS_perm xs).trans (h.trans (srtS_perm ys).symm))
theorem rising_asc : ∀ (p : Str) (l : List Str), risingS p l = true → (p :: l).Pairwise (fun a b => leS a b = true)
  | p, [], _ => List.pairwise_singleton _ _
  | p, x :: r, h => by
    have h : (!ltCps x.cps.toList p.cps.toList && risingS x r) = true := h
    obtain ⟨h1, h2⟩ := Bool.and_eq_true_iff.mp h
    have ih := rising_asc x r h2
    have hpx : leS p x = true := by
      have e : ltCps x.cps.toList p.cps.toList = false := by simpa using h1
      rw [ltCps_eq] at e
      exact decide_eq_true (List.not_lt.mp (of_decide_eq_false e))
    refine List.pairwise_cons.mpr ⟨fun y hy => ?_, ih⟩
    rcases List.mem_cons.mp hy with rfl | hy
    · exact hpx
    · exact leS_trans _ _ _ hpx ((List.pairwise_cons.mp ih).1 y hy)
theorem sortedS_asc {l : List Str} (h : sortedS l = true) : l.Pairwise (fun a b => leS a b = true) := by
  cases l with
  | nil => exact .nil
  | cons p r => exact rising_asc p r h
theorem sortedS_uniq {xs ys : List Str} (h1 : sortedS xs = true) (h2 : sortedS ys = true) (p : xs.Perm ys) : xs = ys := asc_uniq (sortedS_asc h1) (sortedS_asc h2) p
section
variable {K : PySem.W.Frag} {H : Hp} {Q : VK} {p : Addr} {xs : List Str}
theorem alike_strs (xs : List Str) : PySem.W.AllAlike (xs.map PyData.str) := PySem.W.AllAlike.of fun _ _ => rfl
theorem sortable_strs (xs : List Str) : PySem.W.Sortable (xs.map PyData.str) := PySem.W.Sortable.others fun b => ⟨(fun z => by cases z), fun ys z => by cases z⟩
theorem depth_strs (xs : List Str) : ∀ d ∈ xs.map PyData.str, d.depth ≤ 20 := fun d hd => by
  obtain ⟨z, _, rfl⟩ := List.mem_map.mp hd
  simp [PyData.depth]
theorem r_sortS (h : SeqV K H p (xs.map V.str)) (hz : xs.length ≤ 1000000) (q : ∀ t H', H t = none → Same H H' → H' t = some (.lst ((srtS xs).map V.str)) → Q (.ref t) H') : rSortD K [.ref p] H Q := by
  refine ⟨p, _, xs.map .str, rfl, h, dp_strs xs, alike_strs xs, sortable_strs xs, by rw [List.length_map]; exact hz, depth_strs xs, fun t ht => ?_⟩
  rw [srt_map, leS_eq]
  exact q t _ ht (Same.new ht) upd_same
theorem lay_strs : ∀ l : List Str, (∀ z ∈ l, PyData.strOk z = true) → PyData.canLayAll0 (l.map PyData.str) = true ∧ PyData.depthAll (l.map PyData.str) = 0
  | [], _ => ⟨rfl, rfl⟩
  | a :: r, h => by
    obtain ⟨i1, i2⟩ := lay_strs r fun z hz => h z (List.mem_cons_of_mem _ hz)
    refine ⟨?_, ?_⟩
    · rw [List.map_cons, PyData.canLayAll0, i1]
      simp [PyData.canLay0, h a (List.mem_cons_self ..)]
    · rw [List.map_cons, PyData.depthAll, i2]
      simp [PyData.depth]
theorem shp_strs {l : List Str} (h : ∀ z ∈ l, PyData.strOk z = true) : SeqAt.shaped (.list (l.map PyData.str)) = true := by
  obtain ⟨y1, y2⟩ := lay_strs l h
  show (PyData.canLayAll0 _ && decide (PyData.depthAll _ + 1 ≤ 64)) = true
  rw [y1, y2]
  rfl
end
end Wp
set_option Elab.async false
set_option linter.all false
set_option maxRecDepth 100000
set_option maxHeartbeats 4000000
/-! A new dict that is walked and then left; three at once; max of three. -/
namespace Wp
open PySem PySem.Spec PyProof.Rows L2
def kFrz (Q : VK) : VK := fun x H1 => ∃ d kvs, x = .ref d ∧ H1 d = some (.dK kvs) ∧ ∀ od, Q (.ref d) (upd H1 d (.frz od (.dK kvs)))
def tFrz (t : TE) : TE := fun σ H Q => t σ H (kFrz Q)
section
variable {X : Cx} {e : Expr} {t : TE} {σ : L2.St} {H : Hp} {Q : VK} {d : Addr} {kvs : List (Key × V)}
theorem pe_frz (h : PE X e t) : PE X e (tFrz t) := by
  refine ⟨fun pins s σ H Q I hw => thn (h.run pins s σ H _ I hw) fun v s1 ⟨x, H1, I1, r, d, kvs, ex, hd, q⟩ => ?_⟩
  obtain ⟨od, I2⟩ := I1.lock hd True.intro
  exact ⟨.ref d, _, I2, by rw [← ex]; exact r, q od⟩
theorem r_frz (q : t σ H (kFrz Q)) : tFrz t σ H Q := q
theorem r_kFrz (h : H d = some (.dK kvs)) (q : ∀ od H', H' d = some (.frz od (.dK kvs)) → But d H H' → (∀ b, H' b = none → H b = none) → Q (.ref d) H') : kFrz Q (.ref d) H :=
  ⟨d, kvs, rfl, h, fun od => q od _ upd_same But.upd fun b e => by
    by_cases hb : b = d
    · rw [hb, upd_same] at e
      cases e
    · rw [upd_ne hb] at e
      exact e⟩
end
section
variable {ta : TA} {D : Ends} {σ : L2.St} {H : Hp} {i j l : Nat} {x y z : V} {Q : VK}
def kPar3 (i j l : Nat) (D : Ends) (σ : L2.St) : List V → Hp → Prop := fun vs H1 => ∃ u v w, vs = [u, v, w] ∧ D.nx (((σ.set i (some u)).set j (some v)).set l (some w)) H1
theorem r_par3 (q : ta σ H (kPar3 i j l D σ)) : tPar3 i j l ta D σ H := q
theorem r_kPar3 (q : D.nx (((σ.set i (some x)).set j (some y)).set l (some z)) H) : kPar3 i j l D σ [x, y, z] H := ⟨x, y, z, rfl, q⟩
theorem r_max3 {a b c : Int} (q : ∀ m : Int, Q (.int m) H) : rNuC3 nuMax3 [.int a, .int b, .int c] H Q := by
  have h2 : ∀ a b : Int, ∃ m : Int, nuMax2 (.int a) (.int b) = some (.int m) := fun a b => by
    have e : nuMax2 (.int a) (.int b) = some (if decide (a < b) = true then V.int b else V.int a) := rfl
    rw [e]
    by_cases h : a < b
    · exact ⟨b, by rw [if_pos (decide_eq_true h)]⟩
    · exact ⟨a, by rw [if_neg (by rw [decide_eq_false h]; decide)]⟩
  obtain ⟨m, hm⟩ := h2 a b
  obtain ⟨n, hn⟩ := h2 m c
  exact ⟨_, _, _, _, rfl, by show (nuMax2 (.int a) (.int b)).bind _ = _; rw [hm]; exact hn, q n⟩
end
/-! data that can stand in lists that are compared -/
structure GoodD (K : PySem.W.Frag) (H : Hp) (v : V) (d : PyData) : Prop where
  p : Dp K H v d
  l : PyData.canLay0 d = true
  h : d.depth ≤ 20
theorem GoodD.keep {K : PySem.W.Frag} {H H' : Hp} {v : V} {d : PyData} (g : GoodD K H v d) (e : Same H H') : GoodD K H' v d := ⟨Dp.mono e g.p, g.l, g.h⟩
/-- a list of such data -/
inductive GoodL (K : PySem.W.Frag) (H : Hp) : List V → List PyData → Prop
  | nil : GoodL K H [] []
  | cons {v : V} {d : PyData} {vs : List V} {ds : List PyData} : GoodD K H v d → GoodL K H vs ds → GoodL K H (v :: vs) (d :: ds)
section
variable {K : PySem.W.Frag} {H H' : Hp} {vs : List V} {ds : List PyData} {p q : Addr} {Q : VK} {v : V} {d : PyData}
theorem GoodL.dp (g : GoodL K H vs ds) : DpAll K H vs ds ∧ PyData.canLayAll0 ds = true ∧ PyData.depthAll ds ≤ 20 ∧ vs.length = ds.length := by
  induction g with
  | nil => exact ⟨.nil, rfl, Nat.zero_le _, rfl⟩
  | @cons v d vs ds h _ ih =>
    obtain ⟨h1, h2, h3, h4⟩ := ih
    refine ⟨.cons h.p h1, ?_, ?_, by simp [h4]⟩
    · rw [PyData.canLayAll0, h.l, h2]
      rfl
    · rw [PyData.depthAll]
      have := h.h
      omega
theorem GoodL.keep (g : GoodL K H vs ds) (e : Same H H') : GoodL K H' vs ds := by
  induction g with
  | nil => exact .nil
  | cons h _ ih => exact .cons (h.keep e) ih
theorem GoodL.snoc (g : GoodL K H vs ds) (h : GoodD K H v d) : GoodL K H (vs ++ [v]) (ds ++ [d]) := by
  induction g with
  | nil => exact .cons h .nil
  | cons h' _ ih => exact .cons h' ih
theorem GoodD.int (i : Int) : GoodD K H (.int i) (.int i) := ⟨.int i, rfl, by simp [PyData.depth]⟩
theorem GoodD.str {z : Str} (h : PyData.strOk z = true) : GoodD K H (.str z) (.str z) := ⟨.str z, h, by simp [PyData.depth]⟩
/-- a tuple, a list of good data, not too deep -/
theorem GoodL.tup (g : GoodL K H vs ds) (h : PyData.depthAll ds ≤ 18) (hp : H p = some (.tup vs)) : GoodD K H (.ref p) (.tuple ds) := by
  obtain ⟨h1, h2, _, _⟩ := g.dp
  exact ⟨.tup (SqT.of hp) h1, h2, by rw [PyData.depth]; omega⟩
theorem GoodL.lst (g : GoodL K H vs ds) (h : PyData.depthAll ds ≤ 18) (hp : H p = some (.lst vs)) : GoodD K H (.ref p) (.list ds) := by
  obtain ⟨h1, h2, _, _⟩ := g.dp
  exact ⟨.lst (SqL.of hp) h1, h2, by rw [PyData.depth]; omega⟩
/-- xs != [] -/
theorem r_neNil (g : GoodL K H vs ds) (hp : H p = some (.lst vs)) (hq : H q = some (.lst [])) (k : Q (.bl (!decide (vs = []))) H) : rNeD K (.ref p) (.ref q) H Q := by
  obtain ⟨h1, h2, h3, h4⟩ := g.dp
  refine ⟨.list ds, .list [], .lst (SqL.of hp) h1, .lst (SqL.of hq) .nil, ?_, by decide +kernel, ?_⟩
  · show (PyData.canLayAll0 ds && decide (PyData.depthAll ds + 1 ≤ 64)) = true
    rw [h2, decide_eq_true (by omega)]
    rfl
  · have e : PyData.eqv (.list ds) (.list []) = decide (vs = []) := by
      show PyData.eqvAll ds [] = _
      cases ds with
      | nil =>
        have : vs = [] := List.length_eq_zero_iff.mp h4
        rw [this]
        rfl
      | cons a r =>
        cases vs with
        | nil => cases h4
        | cons b s =>
          show PyData.eqvAll (a :: r) [] = _
          simp [PyData.eqvAll]
    rw [e]
    exact k
end
/-! a list, whatever is in it, against [] -/
def rNeNil (K : PySem.W.Frag) : R2 := fun x y H Q => ∃ (p q : Addr) (xs : List V), x = .ref p ∧ y = .ref q ∧ SqL K H p xs ∧ SqL K H q [] ∧ Q (.bl (!decide (xs = []))) H
def rEqNil (K : PySem.W.Frag) : R2 := fun x y H Q => ∃ (p q : Addr) (xs : List V), x = .ref p ∧ y = .ref q ∧ SqL K H p xs ∧ SqL K H q [] ∧ Q (.bl (decide (xs = []))) H
section
variable {X : Cx} {K : PySem.W.Frag} {H : Hp} {Q : VK} {p q : Addr} {xs : List V}
theorem nil_cmp (hu : X.A.units < cLine) {pins : List (Addr × Obj)} {s : Shared} {σ : L2.St} (I : Inv X pins σ H s) (h1 : SqL X.K H p xs) (h2 : SqL X.K H q []) :
    (∀ (R : Value → Shared → Prop) (E : Value → Shared → Prop), R (.bool (decide (xs = []))) s → wpAny (model X.prog X.w) X.A (compareOp .Eq (.ref p) (.ref q)) R E s) ∧
    (∀ (R : Value → Shared → Prop) (E : Value → Shared → Prop), R (.bool (!decide (xs = []))) s → wpAny (model X.prog X.w) X.A (compareOp .NotEq (.ref p) (.ref q)) R E s) := by
  obtain ⟨us, rv, p1, _⟩ := I.list h1
  obtain ⟨ws, rw2, p2, _⟩ := I.list h2
  have e2 : ws = [] := by
    cases rw2
    rfl
  subst e2
  cases xs with
  | nil =>
    have e1 : us = [] := by
      cases rv
      rfl
    subst e1
    refine ⟨fun R E hR => ?_, fun R E hR => ?_⟩
    · exact SeqAt.eq_listAt (e := fun _ => true) p1.isList p2.isList rfl hu (fun j h => absurd h (by simp)) (by simpa using hR)
    · exact SeqAt.RcNeAt.lists (e := fun _ => true) p1.isList p2.isList rfl hu (fun j h => absurd h (by simp)) X.prog X.w E R (by simpa using hR)
  | cons v vs =>
    have hz : (us.toArray.size != ([] : List Value).toArray.size) = true := by
      have := rv.length
      cases us with
      | nil => cases this
      | cons a r => simp
    refine ⟨fun R E hR => ?_, fun R E hR => ?_⟩
    · exact SeqAt.eq_list_lengthsAt p1.isList p2.isList hz hu (by simpa using hR)
    · exact SeqAt.RcNeAt.lists_lengths p1.isList p2.isList hz hu X.prog X.w E R (by simpa using hR)
theorem neNilK (h : X.K = K) (hu : X.A.units + 64 < cLine) : OpR X (compareOp .NotEq) (rNeNil K) := by
  subst h
  intro pins s σ H x y v u Q I rx ry h
  obtain ⟨p, q, xs, rfl, rfl, h1, h2, k⟩ := h
  obtain rfl : v = .ref p := rx
  obtain rfl : u = .ref q := ry
  exact (nil_cmp (by omega) I h1 h2).2 _ _ ⟨.bl _, H, I, rfl, k⟩
theorem eqNilK (h : X.K = K) (hu : X.A.units + 64 < cLine) : OpR X (compareOp .Eq) (rEqNil K) := by
  subst h
  intro pins s σ H x y v u Q I rx ry h
  obtain ⟨p, q, xs, rfl, rfl, h1, h2, k⟩ := h
  obtain rfl : v = .ref p := rx
  obtain rfl : u = .ref q := ry
  exact (nil_cmp (by omega) I h1 h2).1 _ _ ⟨.bl _, H, I, rfl, k⟩
theorem r_neNilA (h1 : SqL K H p xs) (h2 : SqL K H q []) (k : Q (.bl (!decide (xs = []))) H) : rNeNil K (.ref p) (.ref q) H Q := ⟨p, q, xs, rfl, rfl, h1, h2, k⟩
theorem r_eqNilA (h1 : SqL K H p xs) (h2 : SqL K H q []) (k : Q (.bl (decide (xs = []))) H) : rEqNil K (.ref p) (.ref q) H Q := ⟨p, q, xs, rfl, rfl, h1, h2, k⟩
end
end Wp
set_option Elab.async false
set_option linter.all false
set_option maxRecDepth 100000
set_option maxHeartbeats 4000000
/-! Books held against each other: why one is dearer; days of the first months. -/
namespace Wp
open PySem PySem.Spec PyProof.Rows L2
def whyF (B1 B2 : Bk) (r1 : Int) (f1 : Bool) (r2 : Int) (f2 : Bool) : Str :=
  if r1 = 0 then "" else if r1 > r2 then "rate" else if f2 = false then "" else
  if B2.beg = "statement" ∧ (f1 = false ∨ B1.beg = "day") then "begin" else if f1 = false then "free" else
  if B1.due < B2.due then "due" else if B1.mem > B2.mem ∧ (B1.beg = "day" ∨ B2.due > 0) then "memory" else ""
section
variable {B1 B2 : Bk} {r1 r2 : Int} {f1 f2 : Bool}
theorem sn1 : ¬ ("" : Str) = "rate" := by decide +kernel
theorem sn2 : ¬ ("" : Str) = "begin" := by decide +kernel
theorem sn3 : ¬ ("" : Str) = "free" := by decide +kernel
theorem sn4 : ¬ ("" : Str) = "due" := by decide +kernel
theorem sn5 : ¬ ("" : Str) = "memory" := by decide +kernel
theorem why_rate (h : whyF B1 B2 r1 f1 r2 f2 = "rate") : r1 > r2 := by
  unfold whyF at h
  by_cases h1 : r1 = 0
  · rw [if_pos h1] at h
    exact absurd h sn1
  · rw [if_neg h1] at h
    by_cases h2 : r1 > r2
    · exact h2
    · rw [if_neg h2] at h
      repeat (split at h; first | exact absurd h (by decide +kernel) | skip)
      all_goals exact absurd h (by decide +kernel)
theorem why_ne (h : ¬ whyF B1 B2 r1 f1 r2 f2 = "") : r1 ≠ 0 := by
  intro z
  unfold whyF at h
  rw [if_pos z] at h
  exact h rfl
theorem why_memory (h : whyF B1 B2 r1 f1 r2 f2 = "memory") : B1.beg = "day" ∨ B2.due > 0 := by
  unfold whyF at h
  by_cases h7 : B1.mem > B2.mem ∧ (B1.beg = "day" ∨ B2.due > 0)
  · exact h7.2
  · rw [if_neg h7] at h
    repeat (split at h; first | exact absurd h (by decide +kernel) | skip)
    all_goals exact absurd h (by decide +kernel)
theorem why_cases : whyF B1 B2 r1 f1 r2 f2 = "" ∨ whyF B1 B2 r1 f1 r2 f2 = "rate" ∨ whyF B1 B2 r1 f1 r2 f2 = "begin" ∨ whyF B1 B2 r1 f1 r2 f2 = "free" ∨ whyF B1 B2 r1 f1 r2 f2 = "due" ∨ whyF B1 B2 r1 f1 r2 f2 = "memory" := by
  unfold whyF
  repeat (split; first | exact .inl rfl | exact .inr (.inl rfl) | exact .inr (.inr (.inl rfl)) | exact .inr (.inr (.inr (.inl rfl))) | exact .inr (.inr (.inr (.inr (.inl rfl)))) | exact .inr (.inr (.inr (.inr (.inr rfl)))))
  exact .inl rfl
end
namespace Bk
/-- how long the months are -/
theorem first_gap {B : Bk} (ok : B.Ok) {m : Int} (h0 : 0 ≤ m) (h3 : m ≤ 3) : 2 ≤ B.first (m + 1) - B.first m ∧ B.first (m + 1) - B.first m ≤ 31 := by
  have l1 := ok.l1
  have l2 := ok.l2
  have l3 := ok.l3
  unfold first
  generalize B.ls = l at *
  have hm : m = 0 ∨ m = 1 ∨ m = 2 ∨ m = 3 := by omega
  match l, l1, l2, l3 with
  | [a], _, _, l3 =>
    have ha := l3 a (by simp)
    rcases hm with rfl | rfl | rfl | rfl <;> simp <;> omega
  | [a, b], _, _, l3 =>
    have ha := l3 a (by simp)
    have hb := l3 b (by simp)
    rcases hm with rfl | rfl | rfl | rfl <;> simp <;> omega
  | [a, b, c], _, _, l3 =>
    have ha := l3 a (by simp)
    have hb := l3 b (by simp)
    have hc := l3 c (by simp)
    rcases hm with rfl | rfl | rfl | rfl <;> simp <;> omega
  | [a, b, c, d], _, _, l3 =>
    have ha := l3 a (by simp)
    have hb := l3 b (by simp)
    have hc := l3 c (by simp)
    have hd := l3 d (by simp)
    rcases hm with rfl | rfl | rfl | rfl <;> simp <;> omega
theorem first0 {B : Bk} (ok : B.Ok) : B.first 0 = 0 := by
  unfold first
  simp
theorem first1 {B : Bk} (ok : B.Ok) : 2 ≤ B.first 1 ∧ B.first 1 ≤ 31 := by
  have h := first_gap ok (Int.le_refl 0) (by decide)
  rw [first0 ok] at h
  have e : (0 : Int) + 1 = 1 := rfl
  rw [e] at h
  omega
theorem due_le {B : Bk} (ok : B.Ok) : B.due ≤ 30 := by
  have l1 := ok.l1
  obtain ⟨a, ha⟩ : ∃ a, a ∈ B.ls := List.exists_mem_of_length_pos (by omega)
  have h1 := ok.d1 a ha
  have h2 := ok.l3 a ha
  omega
end Bk
theorem name_strOk {z : Str} (h : NameOk z) : PyData.strOk z = true := by
  have hl := h.low
  unfold PyData.strOk
  rw [Array.all_eq_true']
  intro c hc
  have := hl c (Array.mem_toList_iff.mpr hc)
  exact decide_eq_true (by omega)
theorem strOk_buy : PyData.strOk "buy" = true := by decide +kernel
theorem strOk_pay : PyData.strOk "pay" = true := by decide +kernel
section
variable {K : PySem.W.Frag} {H : Hp} {t : Addr} {n : Str} {a b : Int}
theorem good_buy (h : PyData.strOk n = true) (ht : H t = some (.tup [.str "buy", .int a, .str n, .int b])) : GoodD K H (.ref t) (.tuple [.str "buy", .int a, .str n, .int b]) :=
  GoodL.tup (.cons (.str strOk_buy) (.cons (.int _) (.cons (.str h) (.cons (.int _) .nil)))) (by simp [PyData.depthAll, PyData.depth]) ht
theorem good_pay (ht : H t = some (.tup [.str "pay", .int a, .int b])) : GoodD K H (.ref t) (.tuple [.str "pay", .int a, .int b]) :=
  GoodL.tup (.cons (.str strOk_pay) (.cons (.int _) (.cons (.int _) .nil))) (by simp [PyData.depthAll, PyData.depth]) ht
end
/-- what course_for hands back -/
def CrsV (K : PySem.W.Frag) (H : Hp) (s : Str) (v : V) : Prop := (s = "" ∧ v = .non) ∨ (¬ s = "" ∧ ∃ t d, v = .ref t ∧ GoodD K H (.ref t) d)
theorem CrsV.keep {K : PySem.W.Frag} {H H' : Hp} {s : Str} {v : V} (h : CrsV K H s v) (e : Same H H') : CrsV K H' s v := by
  rcases h with h | ⟨h1, t, d, h2, h3⟩
  · exact .inl h
  · exact .inr ⟨h1, t, d, h2, h3.keep e⟩
end Wp
set_option Elab.async false
set_option linter.all false
set_option maxRecDepth 100000
set_option maxHeartbeats 4000000
namespace Wp
open PySem PySem.Spec PyProof.Rows L2
abbrev s_is_order : Stmt := topS 27
abbrev s_Book___init__ : Stmt := inClass (topS 29) 0
abbrev s_need_book : Stmt := topS 30
local macro_rules | `(tactic| walk_at "val") => `(tactic| assumption)
local macro_rules | `(tactic| walk_at "rd1") => `(tactic| first
  | with_reducible refine r_seq ?_ | with_reducible refine r_next ?_ | with_reducible refine r_if ?_ | with_reducible refine r_asg ?_ | with_reducible refine r_gname ?_
  | with_reducible refine r_ret ?_ | with_reducible refine r_retN ?_ | with_reducible refine r_drop ?_ | with_reducible refine r_par ?_ | with_reducible refine r_kPar ?_
  | ((with_reducible refine' r_var ?hv ?_); (case hv => exact rfl)) | with_reducible refine r_c ?_ | with_reducible refine r_nil ?_ | with_reducible refine r_cons ?_
  | with_reducible refine r_fn ?_ | with_reducible refine r_cb ?_ | with_reducible refine r_op ?_ | with_reducible refine r_un ?_ | with_reducible refine r_I0 ?_
  | with_reducible refine r_pow5 ?_ | with_reducible refine r_pow6 ?_ | with_reducible refine r_pow7 ?_ | with_reducible refine r_pow9 ?_ | with_reducible refine r_pow18 ?_ | with_reducible refine r_pow20 ?_ | with_reducible refine r_pow30 ?_
  | with_reducible refine r_isN_non ?_ | with_reducible refine r_isN_ref ?_ | with_reducible refine r_isN_int ?_ | with_reducible refine r_isN_str ?_ | with_reducible refine r_isN_bl ?_ | with_reducible refine r_notN_non ?_ | with_reducible refine r_notN_ref ?_ | with_reducible refine r_notN_int ?_ | with_reducible refine r_notN_str ?_ | with_reducible refine r_notN_bl ?_
  | ((with_reducible refine r_I ?hc ?_); (case hc => walk_at "side")) | with_reducible refine r_U ?_
  | with_reducible refine r_eqI ?_ | with_reducible refine r_neI ?_ | with_reducible refine r_eqS ?_ | with_reducible refine r_neS ?_ | with_reducible refine r_eqB ?_ | with_reducible refine r_neB ?_
  | with_reducible refine r_chain ?_ | with_reducible refine r_test ?_ | with_reducible refine r_tB ?_ | with_reducible refine r_kTest ?_ | with_reducible refine r_not ?_
  | with_reducible refine r_and ?_ | with_reducible refine r_or ?_ | with_reducible refine r_tif ?_ | with_reducible refine r_andV ?_ | with_reducible refine r_orV ?_ | with_reducible refine r_notV ?_
  | with_reducible refine r_kAndV ?_ | with_reducible refine r_kOrV ?_ | with_reducible refine r_kNotV ?_
  | with_reducible refine w_T ?_ | with_reducible refine w_F ?_ | with_reducible refine w_NT ?_ | with_reducible refine w_NF ?_
  | with_reducible refine r_tup ?_ | with_reducible refine r_lst ?_ | with_reducible refine r_fld ?_ | with_reducible refine r_prop ?_ | ((with_reducible refine' r_aug ?h1 ?_); (case h1 => exact rfl)) | with_reducible refine r_ipI ?_ | with_reducible refine r_dget ?_ | with_reducible refine r_dput ?_ | with_reducible refine r_bm ?_
  | ((with_reducible refine' r_kDGetS ?h1 ?h2 ?_); (case h1 => assumption); (case h2 => walk_at "val"))
  | ((with_reducible refine' r_kBML ?h1 ?_); (case h1 => assumption))
  | with_reducible refine r_forL ?_ | with_reducible refine r_forR1 ?_ | with_reducible refine r_forR2 ?_ | with_reducible refine r_forT ?_ | with_reducible refine r_lcL ?_ | with_reducible refine r_lcR1 ?_
  | ((with_reducible refine r_kLcG ?hw ?_); (case hw => exact rfl)) | with_reducible refine r_kLcT ?_ | with_reducible refine r_yes ?_
  | with_reducible refine r_pnil ?_ | with_reducible refine r_pcons ?_
  | with_reducible refine r_fnK ?_ | ((with_reducible refine r_kFnK ?hl ?_); (case hl => exact rfl))
  | with_reducible refine r_isi_ii ?_ | with_reducible refine r_isi_ib ?_ | with_reducible refine r_isi_bi ?_ | with_reducible refine r_isi_bb ?_ | with_reducible refine r_isi_ss ?_ | with_reducible refine r_isi_is ?_ | with_reducible refine r_isi_it ?_
  | ((with_reducible refine' r_isi_tt ?h1 ?_); (case h1 => assumption))
  | with_reducible refine r_sfld ?_ | with_reducible refine r_gnil ?_ | with_reducible refine r_gcons ?_
  | ((with_reducible refine' r_gtup ?h1 ?h2 ?_); (case h1 => exact SqT.of (by assumption)); (case h2 => exact rfl))
  | with_reducible refine r_sl ?_ | with_reducible refine r_noPart ?_ | with_reducible refine r_part ?_ | with_reducible refine r_kPart ?_ | with_reducible refine r_m1 ?_ | with_reducible refine r_kM1 ?_ | with_reducible refine r_forS ?_ | with_reducible refine r_lcS ?_ | with_reducible refine r_lcTu ?_ | with_reducible refine r_lcK ?_ | with_reducible refine r_dcL ?_ | with_reducible refine r_dcK ?_ | with_reducible refine r_lc2L ?_ | with_reducible refine r_kLc2TL ?_ | with_reducible refine r_dcEn ?_ | with_reducible refine r_gslc ?_ | with_reducible refine r_lcEn ?_ | with_reducible refine r_lcEl ?_ | with_reducible refine r_lcR2 ?_ | with_reducible refine r_rg1 ?_ | with_reducible refine r_forET ?_ | with_reducible refine r_lenD ?_
  | ((with_reducible refine r_kDcG ?hw ?_); (case hw => exact rfl)) | with_reducible refine r_kDcT ?_
  | with_reducible refine r_fldaug ?_ | with_reducible refine r_daug ?_ | with_reducible refine r_rAdd ?_ | with_reducible refine r_rSub ?_ | with_reducible refine r_ddel ?_ | with_reducible refine r_bmF ?_ | with_reducible refine r_dget2 ?_ | with_reducible refine r_listItems ?_ | with_reducible refine r_bm0 ?_ | with_reducible refine r_lc2E ?_ | ((with_reducible refine r_kLc2G ?hw ?_); (case hw => exact rfl)) | with_reducible refine r_kLc2T ?_ | with_reducible refine r_forE ?_ | with_reducible refine r_orT ?_ | with_reducible refine r_din ?_ | with_reducible refine r_augS ?_ | with_reducible refine r_dnotin ?_ | with_reducible refine r_lcIT ?_ | with_reducible refine r_cont ?_ | with_reducible refine r_meth ?_ | with_reducible refine r_frz ?_ | with_reducible refine r_par3 ?_ | with_reducible refine r_kPar3 ?_ | with_reducible refine r_dz ?_ | with_reducible refine r_revL ?_ | with_reducible refine r_star ?_ | with_reducible refine r_int1 ?_ | with_reducible refine r_int1b ?_ | with_reducible refine r_min2 ?_ | with_reducible refine r_max2 ?_ | with_reducible refine r_gsub ?_)
local macro_rules | `(tactic| walk_at "rd") => `(tactic| repeat walk_at "rd1")
local macro_rules | `(tactic| walk_at "side") => `(tactic| first | assumption | exact Or.inr ⟨by decide, by decide⟩ | exact Or.inl ⟨by decide, by decide⟩ | (constructor <;> omega) | omega | decide | (refine Or.inl ⟨?_, ?_⟩ <;> omega) | (refine Or.inr ⟨?_, ?_⟩ <;> omega) | (refine ⟨?_, ?_, ?_⟩ <;> first | decide | omega))
/-- a list or a tuple of ints stands at a -/
def LsAt (H : Hp) (a : Addr) (ls : List Int) : Prop := H a = some (.lst (ls.map V.int)) ∨ H a = some (.tup (ls.map V.int))
theorem LsAt.keep {H H' : Hp} {a : Addr} {ls : List Int} (h : LsAt H a ls) (e : Same H H') : LsAt H' a ls := h.elim (fun h => .inl (e _ _ h)) fun h => .inr (e _ _ h)
theorem LsAt.seq {K : PySem.W.Frag} {H : Hp} {a : Addr} {ls : List Int} (h : LsAt H a ls) : SeqV K H a (ls.map V.int) := h.elim (fun h => .inl (SqL.of h)) fun h => .inr (SqT.of h)
/-- an order of the kinds, if there is one -/
def Bk.LaidOk (B : Bk) : Prop := ∀ ns, B.laid = some ns → ns.Perm (B.ks.map (·.1))
def sp_is_order : Sp := fun vs H Q _ => ∃ (p q : Addr) (xs ys : List Str), vs = [.ref p, .ref q] ∧ H p = some (.lst (xs.map V.str)) ∧ FrzT H q (ys.map V.str) ∧ ys.Perm xs ∧ (∀ z ∈ xs, NameOk z) ∧ xs.length ≤ 100 ∧ ∀ H', Same H H' → Q (.bl true) H'
def sp_Book_init (C : Addr) : Sp := fun vs H Q _ => ∃ (p dx a kd : Addr) (B : Bk) (lv : V) (kvs : List (Key × V)), vs = [.ref p, .ref a, .int B.due, .ref kd, .int B.mem, .str B.beg, lv] ∧ B.Ok ∧ B.LaidOk ∧ LaidV H B.laid lv ∧ H p = some (.ins C dx []) ∧
  LsAt H a B.ls ∧ H kd = some (.dK kvs) ∧ KAt H kvs B.ks ∧ ∀ H' ks, But p H H' → ks.Perm B.ks → sortedS (ks.map (·.1)) = true → BookAt C H' p { B with ks := ks } → Q .non H'
def sp_Book (C : Addr) : Sp := fun vs H Q _ => ∃ (a kd : Addr) (B : Bk) (lv : V) (kvs : List (Key × V)), vs = [.ref a, .int B.due, .ref kd, .int B.mem, .str B.beg, lv] ∧ B.Ok ∧ B.LaidOk ∧ LaidV H B.laid lv ∧
  LsAt H a B.ls ∧ H kd = some (.dK kvs) ∧ KAt H kvs B.ks ∧ ∀ p H' ks, H p = none → Same H H' → ks.Perm B.ks → sortedS (ks.map (·.1)) = true → BookAt C H' p { B with ks := ks } → Q (.ref p) H'
theorem KAt.keepT {H H' : Hp} {kvs : List (Key × V)} {ks : List (Str × Int × Bool)} (h : KAt H kvs ks) (e : Same H H') : KAt H' kvs ks := h.keep fun t xs q => e _ _ q
theorem imp_Book {C : Addr} (vs : List V) (H : Hp) (Q : VK) (E : XK) (h : sp_Book C vs H Q E) : spMk C (sp_Book_init C) [] vs H Q E := by
  obtain ⟨a, kd, B, lv, kvs, rfl, ok, lo, hl, ha, hk, hK, k⟩ := h
  intro x dx nx nd ne
  have up : ∀ c o, H c = some o → upd (upd H dx (.own x)) x (.ins C dx []) c = some o := fun c o hc => by
    rw [upd_ne (ne_of_none hc nx), upd_ne (ne_of_none hc nd)]
    exact hc
  refine ⟨x, dx, a, kd, B, lv, kvs, rfl, ok, lo, hl.keep fun t o xs ht => up _ _ ht, upd_same, ha.keep up, up _ _ hk, hK.keepT up, fun H' ks b p1 p2 hB => ⟨rfl, k x H' ks nx (fun c o hc => ?_) p1 p2 hB⟩⟩
  exact b _ _ (up _ _ hc) (ne_of_none hc nx)
theorem pfl {f : Str} {v : V} : ∀ {fs : List (Str × V)} {n : Nat}, fs.length ≤ n → (putF f v fs).length ≤ n + 1
  | [], n, _ => by simp [putF]
  | (g, x) :: r, n, h => by
    unfold putF
    split
    · simp only [List.length_cons] at *
      omega
    · simp only [List.length_cons] at *
      have := pfl (f := f) (v := v) (fs := r) (n := n - 1) (by omega)
      omega
theorem pf0 : ([] : List (Str × V)).length ≤ 0 := Nat.le_refl _
theorem pf9 {n m : Nat} (h : n ≤ m) (hm : m < 1000 := by decide) : n < 1000 := by omega
def sp_need_book (C : Addr) : Sp := fun vs H Q _ => ∃ (p : Addr) (B : Bk), vs = [.ref p] ∧ BookAt C H p B ∧ Q .non H
/-- what the class must have for its fields -/
structure BkC (K : PySem.W.Frag) (C : Addr) : Prop where
  cl : Cls K C
  n1 : NoAttr K C "b_lengths"
  n2 : NoAttr K C "b_due"
  n3 : NoAttr K C "b_kinds"
  n4 : NoAttr K C "b_memory"
  n5 : NoAttr K C "b_begins"
  n6 : NoAttr K C "b_laid"
section
variable {P : Program} {w : World} {K : PySem.W.Frag} {mg : Str → Option Value} {base : Heap}
theorem ok_need_book {f : Addr} {fd : FuncData} (T : Tx K mg) (I_Book : C8.InsC K (He.ga K "Book")) (F : FnP K "need_book" s_need_book f fd) : FnOk P w K mg base CX0 1 f fd ["value"] (sp_need_book (He.ga K "Book")) := by
  have sc : FnScope ["value"] ["value"] (defScope s_need_book) := ⟨rfl, rfl, rfl, by decide +kernel, rfl, by decide +kernel, by decide +kernel⟩
  refine F.ok sc (by rintro vs H Q E ⟨_, _, rfl, _⟩; rfl) (fun cdv A outer s H vs Q E hr h => ⟨_, PSs.nox ((pss_one (ps_if (pt_not (pt_val (pe_callB (C8.call_isC I_Book) (by rfl) T.b_isinstance (by decide +kernel) (pa_cons (pv 0) (pa_cons (pe_glob (v := .ref (He.ga K "Book")) (by rfl) T.g_Book rfl) pa_nil))))) (pss_one ps_never) pss_nil))), ?_⟩)
  obtain ⟨p, B, rfl, ⟨dx, tl, kd, lv, kvs, hB⟩, q⟩ := h
  walk_at "rd"
  refine ⟨p, dx, _, rfl, hB.i, ?_⟩
  walk_at "rd"
  exact q
theorem ok_is_order {f : Addr} {fd : FuncData} (T : Tx K mg) (F : FnP K "is_order" s_is_order f fd) (d_is_name : Dn P w K mg base CX0 1 "is_name" ["value"] sp_is_name) : FnOk P w K mg base CX0 2 f fd ["names", "value"] sp_is_order := by
  have sc : FnScope ["names", "value", "name"] ["names", "value"] (defScope s_is_order) := ⟨rfl, rfl, rfl, by decide +kernel, rfl, by decide +kernel, by decide +kernel⟩
  refine F.ok sc (by rintro vs H Q E ⟨_, _, _, _, rfl, _⟩; rfl) (fun cdv A outer s H vs Q E hr h => ⟨_, PSs.nox ((pss_cons (ps_if (PW.pt (pw_or (pt_not (pt_val (pe_callB (c_isiK (K := K) rfl) (by rfl) T.b_isinstance (by decide +kernel) (pa_cons (pv 1) (pa_cons (pe_bltn (v := .ty "tuple") (by rfl) T.b_tuple (by decide +kernel) rfl) pa_nil))))) (pw_or1 (pt_not (pt_val (pe_callB (c_allK (K := K) rfl rfl) (by rfl) T.b_all (by decide +kernel) (pa_cons (pe_lc (own := [("name", 2)]) (by rfl) sc.nd (pi_tupK (K := K) rfl (pv 1)) (blkOk_by (own := [("name", 2)]) (N := ["names", "value", "name"]) (sc := defScope s_is_order) (by decide +kernel)) (fun _ _ _ _ _ => (pg_name (i := 2) sc.nd rfl (by first | exact Or.inl rfl | exact Or.inr rfl))) (fun _ _ _ _ _ => pts_nil) (fun _ _ _ _ _ => (pe_fn d_is_name (hr.mono (by decide)) pass0 (pa_cons (pv 2) pa_nil)))) pa_nil))))))) (pss_one (ps_ret pe_bl)) pss_nil)
      (pss_one (ps_ret (pe_cmpR (eqDK (K := K) rfl hr.units) (pe_callB (c_sortD (K := K) rfl hr) (by rfl) T.b_sorted (by decide +kernel) (pa_cons (pv 1) pa_nil)) (pe_callB (c_sortD (K := K) rfl hr) (by rfl) T.b_sorted (by decide +kernel) (pa_cons (pv 0) pa_nil)) (nomark _)))))), ?_⟩)
  obtain ⟨p, q, xs, ys, rfl, hp, hq, pm, nm, hl, k⟩ := h
  have hyl : ys.length = xs.length := pm.length_eq
  have nmy : ∀ z ∈ ys, NameOk z := fun z hz => nm z (pm.mem_iff.mp hz)
  walk_at "rd"
  refine r_isiT (r := true) (SqT.ty hq.sq) (by decide +kernel) ?_
  walk_at "rd"
  refine r_kLcTu (xs := ys.map V.str) (fun Da i H' => Same H H' ∧ H' Da = some (.lst ((List.replicate i true).map V.bl))) hq.sq (fun Da H' _ e h => ⟨e, h⟩) (fun Da i H' h => (hq.same h.1).sq) ?_ ?_
  · rintro Da i x H' hD hx ⟨e, h⟩
    obtain ⟨z, rfl, hz⟩ := strs_get hx
    have hil := (List.getElem?_eq_some_iff.mp hz).1
    walk_at "rd"
    refine ⟨z, rfl, nmy z (List.mem_of_getElem? hz), fun H2 e2 => ?_⟩
    refine r_kLcE (e2 _ _ h) (by rw [List.length_map, List.length_replicate]; omega) fun H3 b3 h3 => ⟨Same.mut (e.trans e2) b3 hD, ?_⟩
    rw [rep_more]
    exact h3
  · rintro Da H1 hD ⟨e1, h1⟩
    walk_at "rd"
    refine r_all (SqL.of h1) ?_
    rw [all_rep]
    walk_at "rd"
    refine r_sortS (.inr (hq.same e1).sq) (by omega) fun t1 H2 _ e2 ht1 => ?_
    walk_at "rd"
    refine r_sortS (.inl (SqL.of (e2 _ _ (e1 _ _ hp)))) (by omega) fun t2 H3 _ e3 ht2 => ?_
    rw [← srtS_eq pm] at ht2
    refine r_eqD_eq (d := .list ((srtS ys).map .str)) (.lst (SqL.of (e3 _ _ ht1)) (dp_strs _)) (.lst (SqL.of ht2) (dp_strs _)) (shp_strs fun z hz => name_strOk (nmy z ((srtS_perm ys).mem_iff.mp hz))) ?_
    exact k H3 ((e1.trans e2).trans e3)
theorem ok_Book_init {f C : Addr} {fd : FuncData} (T : Tx K mg) (bc : BkC K C) (F : FunD K "__init__" "Book.__init__" (defArgs s_Book___init__) (defBody s_Book___init__) (defScope s_Book___init__) [.int 0, .str "day", .non] [] f fd)
    (d_is_number_in : Dn P w K mg base CX0 2 "is_number_in" ["value", "least", "most"] (sp_is_number_in K)) (d_are_lengths : Dn P w K mg base CX0 3 "are_lengths" ["value"] (sp_are_lengths K)) (d_are_kinds : Dn P w K mg base CX0 4 "are_kinds" ["value"] sp_are_kinds) (d_is_order : Dn P w K mg base CX0 2 "is_order" ["names", "value"] sp_is_order) :
    FnOk P w K mg base CX0 5 f fd ["self", "lengths", "due", "kinds", "memory", "begins", "laid"] (sp_Book_init C) := by
  have sc : FnScope ["self", "lengths", "due", "kinds", "memory", "begins", "laid", "name"] ["self", "lengths", "due", "kinds", "memory", "begins", "laid"] (defScope s_Book___init__) := ⟨rfl, rfl, rfl, by decide +kernel, rfl, by decide +kernel, by decide +kernel⟩
  refine F.ok sc (by rintro vs H Q E ⟨_, _, _, _, _, _, _, rfl, _⟩; rfl) (fun cdv A outer s H vs Q E hr h => ⟨_, PSs.nox ((pss_cons (ps_if (pt_not (pt_val (pe_fn d_are_lengths (hr.mono (by decide)) pass0 (pa_cons (pv 1) pa_nil)))) (pss_one ps_never) pss_nil)
      (pss_cons (ps_if (pt_not (pt_val (pe_fn d_is_number_in (hr.mono (by decide)) pass0 (pa_cons (pv 2) (pa_cons pe_int (pa_cons (pe_op op_sub (pe_callB (c_either (c_minK (K := K) rfl rfl) (c_minT (K := K) rfl rfl)) (by rfl) T.b_min (by decide +kernel) (pa_cons (pv 1) pa_nil)) pe_int) pa_nil)))))) (pss_one ps_never) pss_nil)
      (pss_cons (ps_if (pt_not (pt_val (pe_fn d_are_kinds (hr.mono (by decide)) pass0 (pa_cons (pv 3) pa_nil)))) (pss_one ps_never) pss_nil)
      (pss_cons (ps_if (pt_not (pt_val (pe_fn d_is_number_in (hr.mono (by decide)) pass0 (pa_cons (pv 4) (pa_cons pe_int (pa_cons (pe_glob (v := .int 2) (by rfl) T.c_MOST_MEMORY.choose_spec ⟨_, rfl⟩) pa_nil)))))) (pss_one ps_never) pss_nil)
      (pss_cons (ps_if (PW.pt (pw_or (pt_not (pt_val (pe_callB (c_isiK (K := K) rfl) (by rfl) T.b_isinstance (by decide +kernel) (pa_cons (pv 5) (pa_cons (pe_bltn (v := .ty "str") (by rfl) T.b_str (by decide +kernel) rfl) pa_nil))))) (pw_or1 (pt_cmpR (notIn_seqK (K := K) rfl) (pv 5) (pe_tup (pa_cons (pe_glob (v := .str "day") (by rfl) T.c_DAY.choose_spec ⟨_, rfl⟩) (pa_cons (pe_glob (v := .str "statement") (by rfl) T.c_STATEMENT.choose_spec ⟨_, rfl⟩) pa_nil))) (by rfl))))) (pss_one ps_never) pss_nil)
      (Evl.pss_cut (ps_if (PW.pt (pw_and (pt_cmpR op_notN1 (pv 6) pe_non (nomark _)) (pw_and1 (pt_not (pt_val (pe_fn d_is_order (hr.mono (by decide)) pass0 (pa_cons (pe_callTy (c_listD rfl) (by rfl) T.b_list (by decide +kernel) (pa_cons (pv 3) pa_nil)) (pa_cons (pv 6) pa_nil)))))))) (pss_one ps_never) pss_nil)
      (pss_cons (ps_fldK (K := K) rfl (pv 0) (pe_callTy (c_tupleK (K := K) rfl) (by rfl) T.b_tuple (by decide +kernel) (pa_cons (pv 1) pa_nil)))
      (pss_cons (ps_fldK (K := K) rfl (pv 0) (pv 2))
      (pss_cons (ps_fldK (K := K) rfl (pv 0) (pe_dc (own := [("name", 7)]) (by rfl) sc.nd (pi_listK (K := K) rfl (pe_callB (c_sortedD rfl) (by rfl) T.b_sorted (by decide +kernel) (pa_cons (pv 3) pa_nil))) (blkOk_by (own := [("name", 7)]) (N := ["self", "lengths", "due", "kinds", "memory", "begins", "laid", "name"]) (sc := defScope s_Book___init__) (by decide +kernel)) (fun _ _ _ _ _ => (pg_name (i := 7) sc.nd rfl (by first | exact Or.inl rfl | exact Or.inr rfl))) (fun _ _ _ _ _ => pts_nil) (fun _ _ _ _ _ => (pv 7)) (fun _ _ _ _ _ => (pe_dget (hu_of hr) (pv 3) (pv 7) (fun _ _ => rfl)))))
      (pss_cons (ps_fldK (K := K) rfl (pv 0) (pv 4))
      (pss_cons (ps_fldK (K := K) rfl (pv 0) (pv 5))
      (pss_one (ps_fldK (K := K) rfl (pv 0) (pv 6))))))))))))))), ?_⟩)
  obtain ⟨p, dx, a, kd, B, lv, kvs, rfl, ok, lok, hlv, hp, ha, hk, hK, k⟩ := h
  have hl1 := ok.l1
  walk_at "rd"
  refine ⟨a, B.ls, rfl, ha.seq, ok.l1, ok.l2, ok.l3, fun H1 e1 => ?_⟩
  walk_at "rd"
  refine r_minSeq (ha.keep e1).seq (by omega) fun m hm hmin => ?_
  have hdm := ok.d1 m hm
  walk_at "rd"
  refine u_in ⟨ok.d0, by omega⟩ ?_
  walk_at "rd"
  refine ⟨kd, kvs, B.ks, rfl, e1 _ _ hk, hK.keepT e1, ok.kn, fun H2 e2 => ?_⟩
  have e02 := e1.trans e2
  walk_at "rd"
  refine u_in ⟨ok.m0, ok.m1⟩ ?_
  walk_at "rd"
  refine r_kTup fun t H3 nt e3 ht => ?_
  have e03 := e02.trans e3
  refine r_notInTS (xs := ["day", "statement"]) (SqT.of ht) ?_
  have hb : B.beg ∈ (["day", "statement"] : List Str) := by
    rcases ok.bg with h | h <;> rw [h] <;> simp
  rw [decide_eq_true hb]
  walk_at "rd"
  refine r_cut (fun σ' H' => σ' = [some (.ref p), some (.ref a), some (.int B.due), some (.ref kd), some (.int B.mem), some (.str B.beg), some lv, none] ∧ Same H H') ?_ ?_
  · walk_at "rd"
    cases hB : B.laid with
    | none =>
      rw [hB] at hlv
      obtain rfl : lv = .non := hlv
      walk_at "rd"
      exact ⟨rfl, e03⟩
    | some ns =>
      rw [hB] at hlv
      obtain ⟨tn, rfl, htn⟩ := hlv
      walk_at "rd"
      refine r_listD (e03 _ _ hk) fun l1 H9 _ e9 hl1 => ?_
      have hn : (kvs.map fun kv => kV kv.1) = (B.ks.map (·.1)).map V.str := by
        have e := congrArg (List.map kV) hK.keys
        rw [List.map_map, List.map_map] at e
        exact e
      rw [hn] at hl1
      walk_at "rd"
      refine ⟨l1, tn, B.ks.map (·.1), ns, rfl, hl1, (htn.same e03).same e9, lok ns hB, ok.kn.nm.ok, by rw [List.length_map]; have := ok.kn.hi; omega, fun H10 e10 => ?_⟩
      walk_at "rd"
      exact ⟨rfl, (e03.trans e9).trans e10⟩
  rintro σ' H3 ⟨rfl, e03⟩
  walk_at "rd"
  refine r_tupOf (ha.keep e03) fun tl H4 e4 htl => ?_
  have e04 := e03.trans e4
  have ntp : ∀ {u : Addr} {xs : List V} {G : Hp} {fs : List (Str × V)}, G u = some (.tup xs) → G p = some (.ins C dx fs) → u ≠ p := fun h1 h2 => ne_of h1 h2 (by intro z; cases z)
  walk_at "rd"
  refine r_kSFld (e04 _ _ hp) bc.cl bc.n1 (by decide) fun H5 b5 h5 => ?_
  have htl5 := b5 _ _ htl (ntp htl (e04 _ _ hp))
  walk_at "rd"
  refine r_kSFld h5 bc.cl bc.n2 (pf9 (pfl pf0)) fun H6 b6 h6 => ?_
  have htl6 := b6 _ _ htl5 (ntp htl5 h5)
  have nkp : kd ≠ p := ne_of hk hp (by intro z; cases z)
  have hk6 := b6 _ _ (b5 _ _ (e04 _ _ hk) nkp) nkp
  have kp06 : But p H H6 := fun b o hb hn => b6 _ _ (b5 _ _ (e04 _ _ hb) hn) hn
  have hK6 : KAt H6 kvs B.ks := by
    refine hK.keep fun u xs hu => kp06 _ _ hu (ntp hu hp)
  have hlen : B.ks.length < 64 := by
    have := ok.kn.hi
    omega
  walk_at "rd"
  refine r_sortedD (ks := B.ks.map (·.1)) hk6 hK6.keys (by rw [List.length_map]; exact hlen) fun ys q H7 py sy nq e7 hq => ?_
  obtain ⟨ms, pm, em⟩ := perm_lift (·.1) ys B.ks py
  have hk7 := e7 _ _ hk6
  have hK7 := hK6.keepT e7
  have nd := ok.kn.nm.nd
  have ndm : (ms.map (·.1)).Nodup := (pm.map (·.1)).nodup_iff.mpr nd
  have lm : ms.length ≤ 6 := by
    rw [pm.length_eq]
    exact ok.kn.hi
  have eys : ys.map V.str = ms.map fun m => V.str m.1 := by rw [← em, List.map_map]; rfl
  walk_at "rd"
  refine r_kDcL (xs := ys.map V.str) (SqL.of hq) (fun Da i H' => Same H7 H' ∧ ∃ kv, H' Da = some (.dK kv) ∧ KAt H' kv (ms.take i)) (fun Da H' _ e h => ⟨e, [], h, .nil⟩) (fun Da i H' h => SqL.of (h.1 _ _ hq)) ?_ ?_
  · rintro Da i y H' hD hy ⟨e8, kv, hDa, hkv⟩
    rw [eys] at hy
    obtain ⟨mm, hm, rfl⟩ : ∃ mm, ms[i]? = some mm ∧ y = V.str mm.1 := by
      rw [List.getElem?_map] at hy
      obtain ⟨mm, h1, h2⟩ := Option.map_eq_some_iff.mp hy
      exact ⟨mm, h1, h2.symm⟩
    obtain ⟨n, r, b⟩ := mm
    have hil := (List.getElem?_eq_some_iff.mp hm).1
    obtain ⟨t', hv, ht'⟩ := hK7.val nd (pm.mem_iff.mp (List.mem_of_getElem? hm))
    have hfresh : n ∉ (ms.take i).map (·.1) := fun z => by
      have e : ms.take (i + 1) = ms.take i ++ [(n, r, b)] := take_more hm
      have nd2 : ((ms.take (i + 1)).map (·.1)).Nodup := (ndm.sublist ((List.take_sublist _ _).map _))
      rw [e, List.map_append, List.nodup_append] at nd2
      exact nd2.2.2 n z n (by simp) rfl
    walk_at "rd"
    refine r_kDGetS (e8 _ _ hk7) hv ?_
    refine r_kDcE (kx := Sum.inr n) hDa (by rw [hkv.len, List.length_take]; omega) fun H9 b9 h9 => ?_
    rw [putK_new _ (hkv.fresh hfresh)] at h9
    have kp9 : ∀ u xs, H' u = some (.tup xs) → H9 u = some (.tup xs) := fun u xs hu => b9 _ _ hu (ne_of hu hDa (by intro z; cases z))
    refine ⟨Same.mut e8 b9 hD, _, h9, ?_⟩
    rw [take_more hm]
    exact (hkv.keep kp9).snoc (kp9 _ _ (e8 _ _ ht'))
  · rintro Da H8 hD ⟨e8, kv, hDa, hkv⟩
    have hfull : ms.take (ys.map V.str).length = ms := by
      rw [eys, List.length_map]
      exact List.take_length
    rw [hfull] at hkv
    have h8 := e8 _ _ (e7 _ _ h6)
    have ntD : Da ≠ p := ne_of hDa h8 (by intro z; cases z)
    walk_at "rd"
    refine r_kSFld h8 bc.cl bc.n3 (pf9 (pfl (pfl pf0))) fun H9 b9 h9 => ?_
    walk_at "rd"
    refine r_kSFld h9 bc.cl bc.n4 (pf9 (pfl (pfl (pfl pf0)))) fun H10 b10 h10 => ?_
    walk_at "rd"
    refine r_kSFld h10 bc.cl bc.n5 (pf9 (pfl (pfl (pfl (pfl pf0))))) fun H11 b11 h11 => ?_
    walk_at "rd"
    refine r_kSFld h11 bc.cl bc.n6 (pf9 (pfl (pfl (pfl (pfl (pfl pf0)))))) fun H12 b12 h12 => ?_
    have kp : But p H8 H12 := fun b o hb hn => b12 _ _ (b11 _ _ (b10 _ _ (b9 _ _ hb hn) hn) hn) hn
    have kpt : But p H H12 := fun b o hb hn => kp _ _ (e8 _ _ (e7 _ _ (kp06 _ _ hb hn))) hn
    have htl8 := e8 _ _ (e7 _ _ htl6)
    refine k H12 ms kpt pm (by rw [em]; exact sy) ⟨dx, tl, Da, lv, kv, ⟨h12, kp _ _ htl8 (ntp htl8 h8), kp _ _ hDa ntD, hkv.keep fun u xs hu => kp _ _ hu (ntp hu h8), ?_⟩⟩
    exact hlv.keep fun u o xs hu => kpt _ _ hu (ne_of hu hp (by intro z; cases z))
end
end Wp
set_option Elab.async false
set_option linter.all false
set_option maxRecDepth 100000
set_option maxHeartbeats 4000000
namespace Wp
open PySem PySem.Spec PyProof.Rows L2
abbrev s_Book_lengths : Stmt := inClass (topS 29) 1
abbrev s_Book_due : Stmt := inClass (topS 29) 2
abbrev s_Book_kinds : Stmt := inClass (topS 29) 3
abbrev s_Book_memory : Stmt := inClass (topS 29) 4
abbrev s_Book_begins : Stmt := inClass (topS 29) 5
abbrev s_Book_laid : Stmt := inClass (topS 29) 6
local macro_rules | `(tactic| walk_at "val") => `(tactic| assumption)
local macro_rules | `(tactic| walk_at "rd1") => `(tactic| first
  | with_reducible refine r_seq ?_ | with_reducible refine r_next ?_ | with_reducible refine r_if ?_ | with_reducible refine r_asg ?_ | with_reducible refine r_gname ?_
  | with_reducible refine r_ret ?_ | with_reducible refine r_retN ?_ | with_reducible refine r_drop ?_ | with_reducible refine r_par ?_ | with_reducible refine r_kPar ?_
  | ((with_reducible refine' r_var ?hv ?_); (case hv => exact rfl)) | with_reducible refine r_c ?_ | with_reducible refine r_nil ?_ | with_reducible refine r_cons ?_
  | with_reducible refine r_fn ?_ | with_reducible refine r_cb ?_ | with_reducible refine r_op ?_ | with_reducible refine r_un ?_ | with_reducible refine r_I0 ?_
  | with_reducible refine r_pow5 ?_ | with_reducible refine r_pow6 ?_ | with_reducible refine r_pow7 ?_ | with_reducible refine r_pow9 ?_ | with_reducible refine r_pow18 ?_ | with_reducible refine r_pow20 ?_ | with_reducible refine r_pow30 ?_
  | with_reducible refine r_isN_non ?_ | with_reducible refine r_isN_ref ?_ | with_reducible refine r_isN_int ?_ | with_reducible refine r_isN_str ?_ | with_reducible refine r_isN_bl ?_ | with_reducible refine r_notN_non ?_ | with_reducible refine r_notN_ref ?_ | with_reducible refine r_notN_int ?_ | with_reducible refine r_notN_str ?_ | with_reducible refine r_notN_bl ?_
  | ((with_reducible refine r_I ?hc ?_); (case hc => walk_at "side")) | with_reducible refine r_U ?_
  | with_reducible refine r_eqI ?_ | with_reducible refine r_neI ?_ | with_reducible refine r_eqS ?_ | with_reducible refine r_neS ?_ | with_reducible refine r_eqB ?_ | with_reducible refine r_neB ?_
  | with_reducible refine r_chain ?_ | with_reducible refine r_test ?_ | with_reducible refine r_tB ?_ | with_reducible refine r_kTest ?_ | with_reducible refine r_not ?_
  | with_reducible refine r_and ?_ | with_reducible refine r_or ?_ | with_reducible refine r_tif ?_ | with_reducible refine r_andV ?_ | with_reducible refine r_orV ?_ | with_reducible refine r_notV ?_
  | with_reducible refine r_kAndV ?_ | with_reducible refine r_kOrV ?_ | with_reducible refine r_kNotV ?_
  | with_reducible refine w_T ?_ | with_reducible refine w_F ?_ | with_reducible refine w_NT ?_ | with_reducible refine w_NF ?_
  | with_reducible refine r_tup ?_ | with_reducible refine r_lst ?_ | with_reducible refine r_fld ?_ | with_reducible refine r_prop ?_ | ((with_reducible refine' r_aug ?h1 ?_); (case h1 => exact rfl)) | with_reducible refine r_ipI ?_ | with_reducible refine r_dget ?_ | with_reducible refine r_dput ?_ | with_reducible refine r_bm ?_
  | ((with_reducible refine' r_kDGetS ?h1 ?h2 ?_); (case h1 => assumption); (case h2 => walk_at "val"))
  | ((with_reducible refine' r_kBML ?h1 ?_); (case h1 => assumption))
  | with_reducible refine r_forL ?_ | with_reducible refine r_forR1 ?_ | with_reducible refine r_forR2 ?_ | with_reducible refine r_forT ?_ | with_reducible refine r_lcL ?_ | with_reducible refine r_lcR1 ?_
  | ((with_reducible refine r_kLcG ?hw ?_); (case hw => exact rfl)) | with_reducible refine r_kLcT ?_ | with_reducible refine r_yes ?_
  | with_reducible refine r_pnil ?_ | with_reducible refine r_pcons ?_
  | with_reducible refine r_fnK ?_ | ((with_reducible refine r_kFnK ?hl ?_); (case hl => exact rfl))
  | with_reducible refine r_isi_ii ?_ | with_reducible refine r_isi_ib ?_ | with_reducible refine r_isi_bi ?_ | with_reducible refine r_isi_bb ?_ | with_reducible refine r_isi_ss ?_ | with_reducible refine r_isi_is ?_ | with_reducible refine r_isi_it ?_
  | ((with_reducible refine' r_isi_tt ?h1 ?_); (case h1 => assumption))
  | with_reducible refine r_sfld ?_ | with_reducible refine r_gnil ?_ | with_reducible refine r_gcons ?_
  | ((with_reducible refine' r_gtup ?h1 ?h2 ?_); (case h1 => exact SqT.of (by assumption)); (case h2 => exact rfl))
  | with_reducible refine r_sl ?_ | with_reducible refine r_noPart ?_ | with_reducible refine r_part ?_ | with_reducible refine r_kPart ?_ | with_reducible refine r_m1 ?_ | with_reducible refine r_kM1 ?_ | with_reducible refine r_forS ?_ | with_reducible refine r_lcS ?_ | with_reducible refine r_lcTu ?_ | with_reducible refine r_lcK ?_ | with_reducible refine r_dcL ?_ | with_reducible refine r_dcK ?_ | with_reducible refine r_lc2L ?_ | with_reducible refine r_kLc2TL ?_ | with_reducible refine r_dcEn ?_ | with_reducible refine r_gslc ?_ | with_reducible refine r_lcEn ?_ | with_reducible refine r_lcEl ?_ | with_reducible refine r_lcR2 ?_ | with_reducible refine r_rg1 ?_ | with_reducible refine r_forET ?_ | with_reducible refine r_lenD ?_
  | ((with_reducible refine r_kDcG ?hw ?_); (case hw => exact rfl)) | with_reducible refine r_kDcT ?_
  | with_reducible refine r_fldaug ?_ | with_reducible refine r_daug ?_ | with_reducible refine r_rAdd ?_ | with_reducible refine r_rSub ?_ | with_reducible refine r_ddel ?_ | with_reducible refine r_bmF ?_ | with_reducible refine r_dget2 ?_ | with_reducible refine r_listItems ?_ | with_reducible refine r_bm0 ?_ | with_reducible refine r_lc2E ?_ | ((with_reducible refine r_kLc2G ?hw ?_); (case hw => exact rfl)) | with_reducible refine r_kLc2T ?_ | with_reducible refine r_forE ?_ | with_reducible refine r_orT ?_ | with_reducible refine r_din ?_ | with_reducible refine r_augS ?_ | with_reducible refine r_dnotin ?_ | with_reducible refine r_lcIT ?_ | with_reducible refine r_cont ?_ | with_reducible refine r_meth ?_ | with_reducible refine r_frz ?_ | with_reducible refine r_par3 ?_ | with_reducible refine r_kPar3 ?_ | with_reducible refine r_dz ?_ | with_reducible refine r_revL ?_ | with_reducible refine r_star ?_ | with_reducible refine r_int1 ?_ | with_reducible refine r_int1b ?_ | with_reducible refine r_min2 ?_ | with_reducible refine r_max2 ?_ | with_reducible refine r_gsub ?_)
local macro_rules | `(tactic| walk_at "rd") => `(tactic| repeat walk_at "rd1")
local macro_rules | `(tactic| walk_at "side") => `(tactic| first | assumption | exact Or.inr ⟨by decide, by decide⟩ | exact Or.inl ⟨by decide, by decide⟩ | (constructor <;> omega) | omega | decide | (refine Or.inl ⟨?_, ?_⟩ <;> omega) | (refine Or.inr ⟨?_, ?_⟩ <;> omega) | (refine ⟨?_, ?_, ?_⟩ <;> first | decide | omega))
def sp_g_lengths (C : Addr) : Sp := fun vs H Q _ => ∃ (p : Addr) (B : Bk), vs = [.ref p] ∧ BookAt C H p B ∧ ∀ tl, H tl = some (.tup (B.ls.map V.int)) → Q (.ref tl) H
def sp_g_due (C : Addr) : Sp := fun vs H Q _ => ∃ (p : Addr) (B : Bk), vs = [.ref p] ∧ BookAt C H p B ∧ Q (.int B.due) H
def sp_g_memory (C : Addr) : Sp := fun vs H Q _ => ∃ (p : Addr) (B : Bk), vs = [.ref p] ∧ BookAt C H p B ∧ Q (.int B.mem) H
def sp_g_begins (C : Addr) : Sp := fun vs H Q _ => ∃ (p : Addr) (B : Bk), vs = [.ref p] ∧ BookAt C H p B ∧ Q (.str B.beg) H
def sp_g_laid (C : Addr) : Sp := fun vs H Q _ => ∃ (p : Addr) (B : Bk), vs = [.ref p] ∧ BookAt C H p B ∧ ∀ lv, LaidV H B.laid lv → Q lv H
def sp_g_kinds (C : Addr) : Sp := fun vs H Q _ => ∃ (p : Addr) (B : Bk), vs = [.ref p] ∧ BookAt C H p B ∧ ∀ q H' kvs, H q = none → Same H H' → H' q = some (.dK kvs) → KAt H' kvs B.ks → Q (.ref q) H'
section
variable {P : Program} {w : World} {K : PySem.W.Frag} {mg : Str → Option Value} {base : Heap}
theorem ok_Book_lengths {f C : Addr} {fd : FuncData} (T : Tx K mg) (bc : BkC K C) (F : FunD K "lengths" "Book.lengths" (defArgs s_Book_lengths) (defBody s_Book_lengths) (defScope s_Book_lengths) [] [] f fd) : FnOk P w K mg base CX0 1 f fd ["self"] (sp_g_lengths C) := by
  have sc : FnScope ["self"] ["self"] (defScope s_Book_lengths) := ⟨rfl, rfl, rfl, by decide +kernel, rfl, by decide +kernel, by decide +kernel⟩
  refine F.ok sc (by rintro vs H Q E ⟨_, _, rfl, _⟩; rfl) (fun cdv A outer s H vs Q E hr h => ⟨_, PSs.nox ((pss_one (ps_ret (pe_fldK (K := K) rfl (pv 0))))), ?_⟩)
  obtain ⟨p, B, rfl, ⟨dx, tl, kd, lv, kvs, hB⟩, k⟩ := h
  walk_at "rd"
  exact r_kFld hB.i bc.cl bc.n1 rfl (k tl hB.l)
theorem ok_Book_due {f C : Addr} {fd : FuncData} (T : Tx K mg) (bc : BkC K C) (F : FunD K "due" "Book.due" (defArgs s_Book_due) (defBody s_Book_due) (defScope s_Book_due) [] [] f fd) : FnOk P w K mg base CX0 1 f fd ["self"] (sp_g_due C) := by
  have sc : FnScope ["self"] ["self"] (defScope s_Book_due) := ⟨rfl, rfl, rfl, by decide +kernel, rfl, by decide +kernel, by decide +kernel⟩
  refine F.ok sc (by rintro vs H Q E ⟨_, _, rfl, _⟩; rfl) (fun cdv A outer s H vs Q E hr h => ⟨_, PSs.nox ((pss_one (ps_ret (pe_fldK (K := K) rfl (pv 0))))), ?_⟩)
  obtain ⟨p, B, rfl, ⟨dx, tl, kd, lv, kvs, hB⟩, k⟩ := h
  walk_at "rd"
  exact r_kFld hB.i bc.cl bc.n2 rfl k
theorem ok_Book_memory {f C : Addr} {fd : FuncData} (T : Tx K mg) (bc : BkC K C) (F : FunD K "memory" "Book.memory" (defArgs s_Book_memory) (defBody s_Book_memory) (defScope s_Book_memory) [] [] f fd) : FnOk P w K mg base CX0 1 f fd ["self"] (sp_g_memory C) := by
  have sc : FnScope ["self"] ["self"] (defScope s_Book_memory) := ⟨rfl, rfl, rfl, by decide +kernel, rfl, by decide +kernel, by decide +kernel⟩
  refine F.ok sc (by rintro vs H Q E ⟨_, _, rfl, _⟩; rfl) (fun cdv A outer s H vs Q E hr h => ⟨_, PSs.nox ((pss_one (ps_ret (pe_fldK (K := K) rfl (pv 0))))), ?_⟩)
  obtain ⟨p, B, rfl, ⟨dx, tl, kd, lv, kvs, hB⟩, k⟩ := h
  walk_at "rd"
  exact r_kFld hB.i bc.cl bc.n4 rfl k
theorem ok_Book_begins {f C : Addr} {fd : FuncData} (T : Tx K mg) (bc : BkC K C) (F : FunD K "begins" "Book.begins" (defArgs s_Book_begins) (defBody s_Book_begins) (defScope s_Book_begins) [] [] f fd) : FnOk P w K mg base CX0 1 f fd ["self"] (sp_g_begins C) := by
  have sc : FnScope ["self"] ["self"] (defScope s_Book_begins) := ⟨rfl, rfl, rfl, by decide +kernel, rfl, by decide +kernel, by decide +kernel⟩
  refine F.ok sc (by rintro vs H Q E ⟨_, _, rfl, _⟩; rfl) (fun cdv A outer s H vs Q E hr h => ⟨_, PSs.nox ((pss_one (ps_ret (pe_fldK (K := K) rfl (pv 0))))), ?_⟩)
  obtain ⟨p, B, rfl, ⟨dx, tl, kd, lv, kvs, hB⟩, k⟩ := h
  walk_at "rd"
  exact r_kFld hB.i bc.cl bc.n5 rfl k
theorem ok_Book_laid {f C : Addr} {fd : FuncData} (T : Tx K mg) (bc : BkC K C) (F : FunD K "laid" "Book.laid" (defArgs s_Book_laid) (defBody s_Book_laid) (defScope s_Book_laid) [] [] f fd) : FnOk P w K mg base CX0 1 f fd ["self"] (sp_g_laid C) := by
  have sc : FnScope ["self"] ["self"] (defScope s_Book_laid) := ⟨rfl, rfl, rfl, by decide +kernel, rfl, by decide +kernel, by decide +kernel⟩
  refine F.ok sc (by rintro vs H Q E ⟨_, _, rfl, _⟩; rfl) (fun cdv A outer s H vs Q E hr h => ⟨_, PSs.nox ((pss_one (ps_ret (pe_fldK (K := K) rfl (pv 0))))), ?_⟩)
  obtain ⟨p, B, rfl, ⟨dx, tl, kd, lv, kvs, hB⟩, k⟩ := h
  walk_at "rd"
  exact r_kFld hB.i bc.cl bc.n6 rfl (k lv hB.d)
theorem ok_Book_kinds {f C : Addr} {fd : FuncData} (T : Tx K mg) (bc : BkC K C) (F : FunD K "kinds" "Book.kinds" (defArgs s_Book_kinds) (defBody s_Book_kinds) (defScope s_Book_kinds) [] [] f fd) : FnOk P w K mg base CX0 1 f fd ["self"] (sp_g_kinds C) := by
  have sc : FnScope ["self"] ["self"] (defScope s_Book_kinds) := ⟨rfl, rfl, rfl, by decide +kernel, rfl, by decide +kernel, by decide +kernel⟩
  refine F.ok sc (by rintro vs H Q E ⟨_, _, rfl, _⟩; rfl) (fun cdv A outer s H vs Q E hr h => ⟨_, PSs.nox ((pss_one (ps_ret (pe_callTy c_dictD (by rfl) T.b_dict (by decide +kernel) (pa_cons (pe_fldK (K := K) rfl (pv 0)) pa_nil))))), ?_⟩)
  obtain ⟨p, B, rfl, ⟨dx, tl, kd, lv, kvs, hB⟩, k⟩ := h
  walk_at "rd"
  refine r_kFld hB.i bc.cl bc.n3 rfl ?_
  walk_at "rd"
  exact r_dictD hB.k fun q H1 nq e1 hq => k q H1 kvs nq e1 hq (hB.a.keepT e1)
end
end Wp
set_option Elab.async false
set_option linter.all false
set_option maxRecDepth 100000
set_option maxHeartbeats 4000000
namespace Wp
open PySem PySem.Spec PyProof.Rows L2
abbrev s_Book_first_at : Stmt := inClass (topS 29) 13
abbrev s_Book_due_at : Stmt := inClass (topS 29) 14
local macro_rules | `(tactic| walk_at "val") => `(tactic| assumption)
local macro_rules | `(tactic| walk_at "rd1") => `(tactic| first
  | with_reducible refine r_seq ?_ | with_reducible refine r_next ?_ | with_reducible refine r_if ?_ | with_reducible refine r_asg ?_ | with_reducible refine r_gname ?_
  | with_reducible refine r_ret ?_ | with_reducible refine r_retN ?_ | with_reducible refine r_drop ?_ | with_reducible refine r_par ?_ | with_reducible refine r_kPar ?_
  | ((with_reducible refine' r_var ?hv ?_); (case hv => exact rfl)) | with_reducible refine r_c ?_ | with_reducible refine r_nil ?_ | with_reducible refine r_cons ?_
  | with_reducible refine r_fn ?_ | with_reducible refine r_cb ?_ | with_reducible refine r_op ?_ | with_reducible refine r_un ?_ | with_reducible refine r_I0 ?_
  | with_reducible refine r_pow5 ?_ | with_reducible refine r_pow6 ?_ | with_reducible refine r_pow7 ?_ | with_reducible refine r_pow9 ?_ | with_reducible refine r_pow18 ?_ | with_reducible refine r_pow20 ?_ | with_reducible refine r_pow30 ?_
  | with_reducible refine r_isN_non ?_ | with_reducible refine r_isN_ref ?_ | with_reducible refine r_isN_int ?_ | with_reducible refine r_isN_str ?_ | with_reducible refine r_isN_bl ?_ | with_reducible refine r_notN_non ?_ | with_reducible refine r_notN_ref ?_ | with_reducible refine r_notN_int ?_ | with_reducible refine r_notN_str ?_ | with_reducible refine r_notN_bl ?_
  | ((with_reducible refine r_I ?hc ?_); (case hc => walk_at "side")) | with_reducible refine r_U ?_
  | with_reducible refine r_eqI ?_ | with_reducible refine r_neI ?_ | with_reducible refine r_eqS ?_ | with_reducible refine r_neS ?_ | with_reducible refine r_eqB ?_ | with_reducible refine r_neB ?_
  | with_reducible refine r_chain ?_ | with_reducible refine r_test ?_ | with_reducible refine r_tB ?_ | with_reducible refine r_kTest ?_ | with_reducible refine r_not ?_
  | with_reducible refine r_and ?_ | with_reducible refine r_or ?_ | with_reducible refine r_tif ?_ | with_reducible refine r_andV ?_ | with_reducible refine r_orV ?_ | with_reducible refine r_notV ?_
  | with_reducible refine r_kAndV ?_ | with_reducible refine r_kOrV ?_ | with_reducible refine r_kNotV ?_
  | with_reducible refine w_T ?_ | with_reducible refine w_F ?_ | with_reducible refine w_NT ?_ | with_reducible refine w_NF ?_
  | with_reducible refine r_tup ?_ | with_reducible refine r_lst ?_ | with_reducible refine r_fld ?_ | with_reducible refine r_prop ?_ | ((with_reducible refine' r_aug ?h1 ?_); (case h1 => exact rfl)) | with_reducible refine r_ipI ?_ | with_reducible refine r_dget ?_ | with_reducible refine r_dput ?_ | with_reducible refine r_bm ?_
  | ((with_reducible refine' r_kDGetS ?h1 ?h2 ?_); (case h1 => assumption); (case h2 => walk_at "val"))
  | ((with_reducible refine' r_kBML ?h1 ?_); (case h1 => assumption))
  | with_reducible refine r_forL ?_ | with_reducible refine r_forR1 ?_ | with_reducible refine r_forR2 ?_ | with_reducible refine r_forT ?_ | with_reducible refine r_lcL ?_ | with_reducible refine r_lcR1 ?_
  | ((with_reducible refine r_kLcG ?hw ?_); (case hw => exact rfl)) | with_reducible refine r_kLcT ?_ | with_reducible refine r_yes ?_
  | with_reducible refine r_pnil ?_ | with_reducible refine r_pcons ?_
  | with_reducible refine r_fnK ?_ | ((with_reducible refine r_kFnK ?hl ?_); (case hl => exact rfl))
  | with_reducible refine r_isi_ii ?_ | with_reducible refine r_isi_ib ?_ | with_reducible refine r_isi_bi ?_ | with_reducible refine r_isi_bb ?_ | with_reducible refine r_isi_ss ?_ | with_reducible refine r_isi_is ?_ | with_reducible refine r_isi_it ?_
  | ((with_reducible refine' r_isi_tt ?h1 ?_); (case h1 => assumption))
  | with_reducible refine r_sfld ?_ | with_reducible refine r_gnil ?_ | with_reducible refine r_gcons ?_
  | ((with_reducible refine' r_gtup ?h1 ?h2 ?_); (case h1 => exact SqT.of (by assumption)); (case h2 => exact rfl))
  | with_reducible refine r_sl ?_ | with_reducible refine r_noPart ?_ | with_reducible refine r_part ?_ | with_reducible refine r_kPart ?_ | with_reducible refine r_m1 ?_ | with_reducible refine r_kM1 ?_ | with_reducible refine r_forS ?_ | with_reducible refine r_lcS ?_ | with_reducible refine r_lcTu ?_ | with_reducible refine r_lcK ?_ | with_reducible refine r_dcL ?_ | with_reducible refine r_dcK ?_ | with_reducible refine r_lc2L ?_ | with_reducible refine r_kLc2TL ?_ | with_reducible refine r_dcEn ?_ | with_reducible refine r_gslc ?_ | with_reducible refine r_lcEn ?_ | with_reducible refine r_lcEl ?_ | with_reducible refine r_lcR2 ?_ | with_reducible refine r_rg1 ?_ | with_reducible refine r_forET ?_ | with_reducible refine r_lenD ?_
  | ((with_reducible refine r_kDcG ?hw ?_); (case hw => exact rfl)) | with_reducible refine r_kDcT ?_
  | with_reducible refine r_fldaug ?_ | with_reducible refine r_daug ?_ | with_reducible refine r_rAdd ?_ | with_reducible refine r_rSub ?_ | with_reducible refine r_ddel ?_ | with_reducible refine r_bmF ?_ | with_reducible refine r_dget2 ?_ | with_reducible refine r_listItems ?_ | with_reducible refine r_bm0 ?_ | with_reducible refine r_lc2E ?_ | ((with_reducible refine r_kLc2G ?hw ?_); (case hw => exact rfl)) | with_reducible refine r_kLc2T ?_ | with_reducible refine r_forE ?_ | with_reducible refine r_orT ?_ | with_reducible refine r_din ?_ | with_reducible refine r_augS ?_ | with_reducible refine r_dnotin ?_ | with_reducible refine r_lcIT ?_ | with_reducible refine r_cont ?_ | with_reducible refine r_meth ?_ | with_reducible refine r_frz ?_ | with_reducible refine r_par3 ?_ | with_reducible refine r_kPar3 ?_ | with_reducible refine r_dz ?_ | with_reducible refine r_revL ?_ | with_reducible refine r_star ?_ | with_reducible refine r_int1 ?_ | with_reducible refine r_int1b ?_ | with_reducible refine r_min2 ?_ | with_reducible refine r_max2 ?_ | with_reducible refine r_gsub ?_)
local macro_rules | `(tactic| walk_at "rd") => `(tactic| repeat walk_at "rd1")
local macro_rules | `(tactic| walk_at "side") => `(tactic| first | assumption | exact Or.inr ⟨by decide, by decide⟩ | exact Or.inl ⟨by decide, by decide⟩ | (constructor <;> omega) | omega | decide | (refine Or.inl ⟨?_, ?_⟩ <;> omega) | (refine Or.inr ⟨?_, ?_⟩ <;> omega) | (refine ⟨?_, ?_, ?_⟩ <;> first | decide | omega))
def sp_first_at (C : Addr) : Sp := fun vs H Q _ => ∃ (p : Addr) (B : Bk) (m : Int), vs = [.ref p, .int m] ∧ BookAt C H p B ∧ B.Ok ∧ ∀ H', Same H H' → Q (.int (B.first m)) H'
def sp_due_at (C : Addr) : Sp := fun vs H Q _ => ∃ (p : Addr) (B : Bk) (m : Int), vs = [.ref p, .int m] ∧ BookAt C H p B ∧ B.Ok ∧ ∀ H', Same H H' → Q (.int (B.first (m + 1) + B.due)) H'
section
variable {P : Program} {w : World} {K : PySem.W.Frag} {mg : Str → Option Value} {base : Heap}
theorem ok_Book_first_at {f C : Addr} {fd : FuncData} (T : Tx K mg) (bc : BkC K C) (F : FunD K "first_at" "Book.first_at" (defArgs s_Book_first_at) (defBody s_Book_first_at) (defScope s_Book_first_at) [] [] f fd) :
    FnOk P w K mg base CX0 1 f fd ["self", "month"] (sp_first_at C) := by
  have sc : FnScope ["self", "month", "many"] ["self", "month"] (defScope s_Book_first_at) := ⟨rfl, rfl, rfl, by decide +kernel, rfl, by decide +kernel, by decide +kernel⟩
  refine F.ok sc (by rintro vs H Q E ⟨_, _, _, rfl, _⟩; rfl) (fun cdv A outer s H vs Q E hr h => ⟨_, PSs.nox ((pss_cons (ps_set (i := 2) sc.nd rfl (by first | exact Or.inl rfl | exact Or.inr rfl) (pe_callB (c_lenK (K := K) rfl) (by rfl) T.b_len (by decide +kernel) (pa_cons (pe_fldK (K := K) rfl (pv 0)) pa_nil)))
      (pss_one (ps_ret (pe_op op_add (pe_op op_mul (pe_op op_fdiv (pv 1) (pv 2)) (pe_callB (c_sumT (K := K) rfl rfl) (by rfl) T.b_sum (by decide +kernel) (pa_cons (pe_fldK (K := K) rfl (pv 0)) pa_nil))) (pe_callB (c_sumT (K := K) rfl rfl) (by rfl) T.b_sum (by decide +kernel) (pa_cons (pe_slice (sl_tupK (K := K) rfl) (pe_fldK (K := K) rfl (pv 0)) po_none (po_some (pe_op op_mod (pv 1) (pv 2)))) pa_nil))))))), ?_⟩)
  obtain ⟨p, B, m, rfl, ⟨dx, tl, kd, lv, kvs, hB⟩, ok, k⟩ := h
  have l1 := ok.l1
  have l2 := ok.l2
  have hm0 := Int.emod_nonneg m (b := (B.ls.length : Int)) (by omega)
  have hm1 := Int.emod_lt_of_pos m (b := (B.ls.length : Int)) (by omega)
  have hsum : 0 ≤ B.ls.sum ∧ B.ls.sum ≤ 1000000 := by
    have h3 := ok.l3
    generalize B.ls = l at *
    have : ∀ l : List Int, (∀ n ∈ l, 2 ≤ n ∧ n ≤ 31) → 0 ≤ l.sum ∧ l.sum ≤ 31 * (l.length : Int) := by
      intro l
      induction l with
      | nil => intro _; simp
      | cons a r ih =>
        intro h
        have h1 := ih fun n hn => h n (List.mem_cons_of_mem _ hn)
        have h2 := h a (List.mem_cons_self ..)
        simp only [List.sum_cons, List.length_cons]
        omega
    have := this l h3
    omega
  walk_at "rd"
  refine r_kFld hB.i bc.cl bc.n1 rfl ?_
  walk_at "rd"
  refine r_lenT (SqT.of hB.l) ?_
  rw [List.length_map]
  walk_at "rd"
  refine r_kFld hB.i bc.cl bc.n1 rfl ?_
  walk_at "rd"
  refine r_sumT (SqT.of hB.l) ?_
  walk_at "rd"
  refine r_kFld hB.i bc.cl bc.n1 rfl ?_
  walk_at "rd"
  refine r_slT_take (SqT.of hB.l) hm0 (by rw [List.length_map]; exact hm1) fun t H1 nt e1 ht => ?_
  rw [← List.map_take] at ht
  walk_at "rd"
  refine r_sumT (SqT.of ht) ?_
  walk_at "rd"
  exact k H1 e1
theorem ok_Book_due_at {f C : Addr} {fd : FuncData} (T : Tx K mg) (bc : BkC K C) (F : FunD K "due_at" "Book.due_at" (defArgs s_Book_due_at) (defBody s_Book_due_at) (defScope s_Book_due_at) [] [] f fd)
    (mt_Book_first_at : Dm P w K mg base CX0 1 C "first_at" (sp_first_at C)) :
    FnOk P w K mg base CX0 2 f fd ["self", "month"] (sp_due_at C) := by
  have sc : FnScope ["self", "month"] ["self", "month"] (defScope s_Book_due_at) := ⟨rfl, rfl, rfl, by decide +kernel, rfl, by decide +kernel, by decide +kernel⟩
  refine F.ok sc (by rintro vs H Q E ⟨_, _, _, rfl, _⟩; rfl) (fun cdv A outer s H vs Q E hr h => ⟨_, PSs.nox ((pss_one (ps_ret (pe_op op_add (pe_mt mt_Book_first_at (hr.mono (by decide)) pass0 (pv 0) (pa_cons (pe_op op_add (pv 1) pe_int) pa_nil)) (pe_fldK (K := K) rfl (pv 0)))))), ?_⟩)
  obtain ⟨p, B, m, rfl, ⟨dx, tl, kd, lv, kvs, hB⟩, ok, k⟩ := h
  walk_at "rd"
  refine r_kMeth hB.i rfl ?_
  walk_at "rd"
  refine ⟨p, B, m + 1, rfl, ⟨dx, tl, kd, lv, kvs, hB⟩, ok, fun H1 e1 => ?_⟩
  walk_at "rd"
  refine r_kFld (hB.keep e1).i bc.cl bc.n2 rfl ?_
  walk_at "rd"
  exact k H1 e1
end
end Wp
set_option Elab.async false
set_option linter.all false
set_option maxRecDepth 100000
/-! Months and tallies, plain. -/
namespace Wp
/-! months -/
def firstL (ls : List Int) (m : Int) : Int := m / (ls.length : Int) * ls.sum + (ls.take (m % (ls.length : Int)).toNat).sum
def cntL : List Int → Int → Nat
  | [], _ => 0
  | x :: xs, r => if r < x then 0 else cntL xs (r - x) + 1
def monthL (ls : List Int) (d : Int) : Int := d / ls.sum * (ls.length : Int) + (cntL ls (d % ls.sum) : Nat)
def fdL (ls : List Int) (u d : Int) : Int := firstL ls (monthL ls d + 1) + u - d
structure LsOk (ls : List Int) : Prop where
  l1 : 1 ≤ ls.length
  l2 : ls.length ≤ 4
  l3 : ∀ n ∈ ls, 2 ≤ n ∧ n ≤ 31
theorem sum_lohi : ∀ {ls : List Int}, (∀ n ∈ ls, 2 ≤ n ∧ n ≤ 31) → 2 * (ls.length : Int) ≤ ls.sum ∧ ls.sum ≤ 31 * (ls.length : Int)
  | [], _ => by simp
  | a :: r, h => by
    have h1 := sum_lohi (ls := r) fun n hn => h n (List.mem_cons_of_mem _ hn)
    have h2 := h a (List.mem_cons_self ..)
    simp only [List.sum_cons, List.length_cons]
    omega
theorem LsOk.sum {ls : List Int} (h : LsOk ls) : 2 ≤ ls.sum ∧ ls.sum ≤ 124 := by
  have := sum_lohi h.l3
  have := h.l1
  have := h.l2
  omega
/-- within the sum: how it stands -/
theorem cntL_spec : ∀ {ls : List Int} {r : Int}, (∀ n ∈ ls, 2 ≤ n ∧ n ≤ 31) → 0 ≤ r → r < ls.sum → cntL ls r < ls.length ∧ (ls.take (cntL ls r)).sum ≤ r ∧ r < (ls.take (cntL ls r + 1)).sum
  | [], r, _, h0, h1 => by simp at h1; omega
  | x :: xs, r, h, h0, h1 => by
    unfold cntL
    split
    · simp; omega
    · rename_i hx
      have h2 := cntL_spec (ls := xs) (r := r - x) (fun n hn => h n (List.mem_cons_of_mem _ hn)) (by omega) (by rw [List.sum_cons] at h1; omega)
      simp only [List.length_cons, List.take_succ_cons, List.sum_cons]
      omega
theorem take_sum_mono : ∀ {ls : List Int} (i j : Nat), (∀ n ∈ ls, 2 ≤ n ∧ n ≤ 31) → i ≤ j → (ls.take i).sum ≤ (ls.take j).sum
  | [], i, j, _, _ => by simp
  | x :: xs, 0, j, h, _ => by
    have h3 : ∀ n ∈ (x :: xs).take j, 2 ≤ n ∧ n ≤ 31 := fun n hn => h n (List.mem_of_mem_take hn)
    have := (sum_lohi h3).1
    simp only [List.take_zero, List.sum_nil]
    omega
  | x :: xs, i + 1, j + 1, h, hij => by
    have := take_sum_mono (ls := xs) i j (fun n hn => h n (List.mem_cons_of_mem _ hn)) (by omega)
    simp only [List.take_succ_cons, List.sum_cons]
    omega
/-- a step of the program's own count -/
theorem cntL_drop : ∀ {ls : List Int} {r : Int} (j : Nat) {x : Int}, ls[j]? = some x → cntL (ls.drop j) r = if r < x then 0 else cntL (ls.drop (j + 1)) (r - x) + 1
  | [], r, j, x, h => by simp at h
  | y :: ys, r, 0, x, h => by
    simp at h
    subst h
    simp [cntL]
  | y :: ys, r, j + 1, x, h => by
    have := cntL_drop (ls := ys) (r := r) j (x := x) (by simpa using h)
    simpa using this
theorem firstL_at {ls : List Int} (q : Int) (j : Nat) (h : j < ls.length) : firstL ls (q * (ls.length : Int) + (j : Int)) = q * ls.sum + (ls.take j).sum := by
  have e1 : (q * (ls.length : Int) + (j : Int)) / (ls.length : Int) = q := by
    rw [Int.add_comm, Int.add_mul_ediv_right _ _ (by omega), Int.ediv_eq_zero_of_lt (by omega) (by omega)]
    omega
  have e2 : (q * (ls.length : Int) + (j : Int)) % (ls.length : Int) = (j : Int) := by
    rw [Int.add_comm, Int.add_mul_emod_self_right, Int.emod_eq_of_lt (by omega) (by omega)]
  unfold firstL
  rw [e1, e2, Int.toNat_natCast]
theorem firstL_at' {ls : List Int} (q : Int) (j : Nat) (h1 : 1 ≤ ls.length) (h : j ≤ ls.length) : firstL ls (q * (ls.length : Int) + (j : Int)) = q * ls.sum + (ls.take j).sum := by
  by_cases e : j < ls.length
  · exact firstL_at q j e
  · have e : j = ls.length := by omega
    subst e
    have := firstL_at (ls := ls) (q + 1) 0 (by omega)
    rw [List.take_length]
    have e2 : q * (ls.length : Int) + (ls.length : Int) = (q + 1) * (ls.length : Int) + ((0 : Nat) : Int) := by
      rw [Int.add_mul]; omega
    rw [e2, this, Int.add_mul]
    simp
/-- the law's own step -/
theorem law_step {ls : List Int} (ok : LsOk ls) (d : Int) (j : Nat) (h : j ≤ cntL ls (d % ls.sum)) :
    (firstL ls (d / ls.sum * (ls.length : Int) + (j : Int) + 1) ≤ d) ↔ j < cntL ls (d % ls.sum) := by
  have hs := ok.sum
  have hr0 := Int.emod_nonneg d (b := ls.sum) (by omega)
  have hr1 := Int.emod_lt_of_pos d (b := ls.sum) (by omega)
  obtain ⟨c1, c2, c3⟩ := cntL_spec ok.l3 hr0 hr1
  have hd := Int.emod_add_mul_ediv d ls.sum
  have l1 := ok.l1
  have e : d / ls.sum * (ls.length : Int) + (j : Int) + 1 = d / ls.sum * (ls.length : Int) + ((j + 1 : Nat) : Int) := by omega
  rw [e, firstL_at' _ _ ok.l1 (by omega)]
  have hc : ls.sum * (d / ls.sum) = d / ls.sum * ls.sum := Int.mul_comm _ _
  constructor
  · intro h1
    by_cases h2 : j < cntL ls (d % ls.sum)
    · exact h2
    · have : j = cntL ls (d % ls.sum) := by omega
      subst this
      omega
  · intro h1
    have := take_sum_mono (ls := ls) (j + 1) (cntL ls (d % ls.sum)) ok.l3 (by omega)
    omega
theorem month_bounds {ls : List Int} (ok : LsOk ls) (d : Int) : firstL ls (monthL ls d) ≤ d ∧ d < firstL ls (monthL ls d + 1) ∧ firstL ls (monthL ls d + 1) ≤ firstL ls (monthL ls d) + 31 := by
  have hs := ok.sum
  have hr0 := Int.emod_nonneg d (b := ls.sum) (by omega)
  have hr1 := Int.emod_lt_of_pos d (b := ls.sum) (by omega)
  obtain ⟨c1, c2, c3⟩ := cntL_spec ok.l3 hr0 hr1
  have hd := Int.emod_add_mul_ediv d ls.sum
  have l1 := ok.l1
  have hc : ls.sum * (d / ls.sum) = d / ls.sum * ls.sum := Int.mul_comm _ _
  unfold monthL
  have e : d / ls.sum * (ls.length : Int) + (cntL ls (d % ls.sum) : Nat) + 1 = d / ls.sum * (ls.length : Int) + ((cntL ls (d % ls.sum) + 1 : Nat) : Int) := by omega
  rw [e, firstL_at' _ _ ok.l1 (by omega), firstL_at' _ _ ok.l1 (by omega)]
  have h1 : (ls.take (cntL ls (d % ls.sum) + 1)).sum = (ls.take (cntL ls (d % ls.sum))).sum + ls[cntL ls (d % ls.sum)] := by
    rw [List.take_succ, List.getElem?_eq_getElem c1, List.sum_append]
    simp
  have h2 := ok.l3 _ (List.getElem_mem c1)
  omega
theorem fd_bounds {ls : List Int} (ok : LsOk ls) (u d : Int) : u + 1 ≤ fdL ls u d ∧ fdL ls u d ≤ u + 31 := by
  have := month_bounds ok d
  unfold fdL
  omega
/-! tallies -/
def lookT : List (Int × Int) → Int → Option Int
  | [], _ => none
  | (k, c) :: r, z => if k = z then some c else lookT r z
def putI (t : List (Int × Int)) (z c : Int) : List (Int × Int) := if (t.any fun p => decide (p.1 = z)) = true then t.map (fun p => if p.1 = z then (p.1, c) else p) else t ++ [(z, c)]
def bump (t : List (Int × Int)) (z : Int) : List (Int × Int) := putI t z ((lookT t z).getD 0 + 1)
def tally (xs : List Int) : List (Int × Int) := xs.foldl bump []
theorem tally_snoc (xs : List Int) (z : Int) : tally (xs ++ [z]) = bump (tally xs) z := by
  unfold tally
  rw [List.foldl_append]
  rfl
theorem any_look : ∀ (t : List (Int × Int)) (z : Int), (t.any fun p => decide (p.1 = z)) = (lookT t z).isSome
  | [], z => rfl
  | (k, c) :: r, z => by
    unfold lookT
    by_cases h : k = z
    · simp [h]
    · rw [List.any_cons, any_look r z]
      simp [h]
theorem putI_keys (t : List (Int × Int)) (z c : Int) : (putI t z c).map (·.1) = if (lookT t z).isSome = true then t.map (·.1) else t.map (·.1) ++ [z] := by
  unfold putI
  rw [any_look]
  split
  · rw [List.map_map]
    refine List.map_congr_left fun p _ => ?_
    show (if p.1 = z then (p.1, c) else p).1 = p.1
    split <;> rfl
  · simp
theorem look_none : ∀ {t : List (Int × Int)} {z : Int}, lookT t z = none ↔ z ∉ t.map (·.1)
  | [], z => by simp [lookT]
  | (k, c) :: r, z => by
    have := look_none (t := r) (z := z)
    unfold lookT
    by_cases h : k = z
    · simp [h]
    · rw [if_neg h, this]
      simp
      intro _ e
      exact h e.symm
theorem look_map (c z y : Int) : ∀ (t : List (Int × Int)), lookT (t.map fun p => if p.1 = z then (p.1, c) else p) y = if y = z then (lookT t z).map (fun _ => c) else lookT t y
  | [] => by simp [lookT]
  | (k, e) :: r => by
    have := look_map c z y r
    rw [List.map_cons]
    by_cases hk : k = z
    · subst hk
      rw [if_pos rfl]
      unfold lookT
      by_cases hy : y = k
      · simp [hy]
      · rw [if_neg (fun z => hy z.symm), this, if_neg hy, if_neg hy, if_neg (fun z => hy z.symm)]
    · rw [if_neg hk]
      show (if k = y then some e else lookT (r.map _) y) = _
      rw [this]
      by_cases hy : y = z
      · subst hy
        rw [if_neg hk, if_pos rfl, if_pos rfl]
        simp [lookT, hk]
      · rw [if_neg hy, if_neg hy]
        rfl
theorem look_snoc (z c y : Int) : ∀ (t : List (Int × Int)), lookT t z = none → lookT (t ++ [(z, c)]) y = if y = z then some c else lookT t y
  | [], _ => by
    simp only [List.nil_append, lookT]
    by_cases h : z = y
    · simp [h]
    · rw [if_neg h, if_neg (fun e => h e.symm)]
  | (k, e) :: r, h => by
    unfold lookT at h
    by_cases hk : k = z
    · rw [if_pos hk] at h; cases h
    · rw [if_neg hk] at h
      have := look_snoc z c y r h
      show (if k = y then some e else lookT (r ++ [(z, c)]) y) = _
      rw [this]
      by_cases hy : y = z
      · subst hy
        rw [if_neg hk, if_pos rfl, if_pos rfl]
      · rw [if_neg hy, if_neg hy]
        rfl
theorem putI_look (t : List (Int × Int)) (z c y : Int) : lookT (putI t z c) y = if y = z then some c else lookT t y := by
  unfold putI
  rw [any_look]
  cases h : lookT t z with
  | none =>
    rw [if_neg (by simp)]
    exact look_snoc z c y t h
  | some e =>
    rw [if_pos (by simp), look_map, h]
    rfl
theorem snoc_ind {P : List Int → Prop} (h0 : P []) (hs : ∀ xs z, P xs → P (xs ++ [z])) : ∀ xs, P xs := fun xs => by
  have : ∀ ys : List Int, P ys.reverse := fun ys => by
    induction ys with
    | nil => exact h0
    | cons y r ih => rw [List.reverse_cons]; exact hs _ _ ih
  have := this xs.reverse
  rwa [List.reverse_reverse] at this
theorem tally_look (z : Int) : ∀ xs : List Int, lookT (tally xs) z = if xs.count z = 0 then none else some (xs.count z : Int) := by
  refine snoc_ind rfl fun xs y ih => ?_
  rw [tally_snoc]
  unfold bump
  rw [putI_look, List.count_append]
  by_cases h : z = y
  · subst h
    rw [if_pos rfl, ih]
    have : List.count z [z] = 1 := by simp
    rw [this, if_neg (Nat.succ_ne_zero _)]
    by_cases h0 : List.count z xs = 0
    · rw [if_pos h0, h0]; rfl
    · rw [if_neg h0]; simp
  · rw [if_neg h, ih]
    have : List.count z [y] = 0 := by simp [List.count_cons]; exact fun e => h e.symm
    rw [this, Nat.add_zero]
theorem tally_mem (xs : List Int) (z : Int) : z ∈ (tally xs).map (·.1) ↔ z ∈ xs := by
  have h1 := look_none (t := tally xs) (z := z)
  rw [tally_look] at h1
  have h2 := List.count_pos_iff (a := z) (l := xs)
  by_cases h : xs.count z = 0
  · rw [if_pos h] at h1
    have h3 := h1.mp rfl
    exact ⟨fun e => absurd e h3, fun e => by have := h2.mpr e; omega⟩
  · rw [if_neg h] at h1
    constructor
    · intro _; exact h2.mp (by omega)
    · intro _
      refine Classical.byContradiction fun e => ?_
      cases h1.mpr e
theorem tally_keys (xs : List Int) (z : Int) : (tally (xs ++ [z])).map (·.1) = if z ∈ xs then (tally xs).map (·.1) else (tally xs).map (·.1) ++ [z] := by
  rw [tally_snoc]
  unfold bump
  rw [putI_keys, tally_look]
  have := List.count_pos_iff (a := z) (l := xs)
  by_cases h : xs.count z = 0
  · rw [if_pos h, if_neg (by simp), if_neg (fun e => by have := this.mpr e; omega)]
  · rw [if_neg h, if_pos (by simp), if_pos (this.mp (by omega))]
theorem tally_nd : ∀ xs : List Int, ((tally xs).map (·.1)).Nodup := by
  refine snoc_ind List.nodup_nil fun xs y ih => ?_
  rw [tally_keys]
  split
  · exact ih
  · rename_i h
    rw [List.nodup_append]
    refine ⟨ih, by simp, fun a ha b hb e => ?_⟩
    rw [List.mem_singleton.mp hb] at e
    subst e
    exact h ((tally_mem xs _).mp ha)
theorem tally_asc : ∀ xs : List Int, xs.Pairwise (· ≤ ·) → ((tally xs).map (·.1)).Pairwise (· ≤ ·) := by
  refine snoc_ind (fun _ => List.Pairwise.nil) fun xs y ih h => ?_
  rw [List.pairwise_append] at h
  rw [tally_keys]
  split
  · exact ih h.1
  · rw [List.pairwise_append]
    exact ⟨ih h.1, by simp, fun a ha b hb => h.2.2 a ((tally_mem xs a).mp ha) b hb⟩
theorem look_of_mem : ∀ {t : List (Int × Int)} {p : Int × Int}, (t.map (·.1)).Nodup → p ∈ t → lookT t p.1 = some p.2
  | [], p, _, h => by cases h
  | (k, c) :: r, p, nd, h => by
    rw [List.map_cons, List.nodup_cons] at nd
    rcases List.mem_cons.mp h with e | e
    · subst e
      simp [lookT]
    · unfold lookT
      rw [if_neg (fun z => nd.1 (by rw [show k = p.1 from z]; exact List.mem_map.mpr ⟨p, e, rfl⟩))]
      exact look_of_mem nd.2 e
theorem tally_perm_keys {xs ys : List Int} (h : xs.Perm ys) : ((tally xs).map (·.1)).Perm ((tally ys).map (·.1)) := by
  rw [List.perm_ext_iff_of_nodup (tally_nd xs) (tally_nd ys)]
  intro a
  rw [tally_mem, tally_mem, h.mem_iff]
theorem tally_perm_len {xs ys : List Int} (h : xs.Perm ys) : (tally xs).length = (tally ys).length := by
  have := (tally_perm_keys h).length_eq
  rwa [List.length_map, List.length_map] at this
theorem tally_perm_look {xs ys : List Int} (h : xs.Perm ys) (z : Int) : lookT (tally xs) z = lookT (tally ys) z := by
  rw [tally_look, tally_look, h.count_eq]
/-- a tally is its keys with what stands at each -/
theorem tally_self (t : List (Int × Int)) (nd : (t.map (·.1)).Nodup) : (t.map (·.1)).map (fun k => (k, (lookT t k).getD 0)) = t := by
  rw [List.map_map]
  conv => rhs; rw [← List.map_id t]
  refine List.map_congr_left fun p hp => ?_
  show (p.1, (lookT t p.1).getD 0) = p
  rw [look_of_mem nd hp]
  rfl
/-- what the law lists: the sorted keys with what the other tally has -/
theorem tally_list {xs ys ks : List Int} (h : ys.Perm xs) (ha : ys.Pairwise (· ≤ ·)) (hk : ks.Perm ((tally xs).map (·.1))) (hka : ks.Pairwise (· ≤ ·)) : ks.map (fun k => (k, (lookT (tally xs) k).getD 0)) = tally ys := by
  have e : ks = (tally ys).map (·.1) := List.Perm.eq_of_pairwise (fun _ _ _ _ h1 h2 => Int.le_antisymm h1 h2) hka (tally_asc ys ha) (hk.trans (tally_perm_keys h).symm)
  subst e
  have := tally_self (tally ys) (tally_nd ys)
  refine Eq.trans ?_ this
  refine List.map_congr_left fun k _ => ?_
  rw [tally_perm_look h]
theorem range_len {l : List Int} {a : Int} (nd : l.Nodup) (h : ∀ z ∈ l, a + 1 ≤ z ∧ z ≤ a + 31) : l.length ≤ 31 := by
  have : l.length ≤ ((List.range 31).map fun i : Nat => a + 1 + (i : Int)).length := by
    refine List.Nodup.length_le_of_subset nd fun z hz => ?_
    have := h z hz
    refine List.mem_map.mpr ⟨(z - a - 1).toNat, List.mem_range.mpr (by omega), by omega⟩
  simpa using this
/-- the free days of one round -/
def rndL (ls : List Int) (u : Int) (n : Nat) : List Int := (List.range n).map fun i : Nat => fdL ls u (i : Int)
theorem rndL_succ (ls : List Int) (u : Int) (n : Nat) : rndL ls u (n + 1) = rndL ls u n ++ [fdL ls u (n : Int)] := by
  unfold rndL
  rw [List.range_succ, List.map_append]
  rfl
theorem rndL_len (ls : List Int) (u : Int) (n : Nat) : (rndL ls u n).length = n := by simp [rndL]
def rnd (ls : List Int) (u : Int) : List Int := rndL ls u ls.sum.toNat
theorem rndL_mem {ls : List Int} (ok : LsOk ls) {u : Int} {n : Nat} : ∀ z ∈ rndL ls u n, u + 1 ≤ z ∧ z ≤ u + 31 := fun z hz => by
  obtain ⟨i, _, rfl⟩ := List.mem_map.mp hz
  exact fd_bounds ok u _
theorem tally_keys_len {ls : List Int} (ok : LsOk ls) {u : Int} {n : Nat} : ((tally (rndL ls u n)).map (·.1)).length ≤ 31 :=
  range_len (a := u) (tally_nd _) fun z hz => rndL_mem ok z ((tally_mem _ z).mp hz)
theorem count_le {xs : List Int} {p : Int × Int} (h : p ∈ tally xs) : 0 ≤ p.2 ∧ p.2 ≤ xs.length := by
  have h1 := look_of_mem (tally_nd xs) h
  rw [tally_look] at h1
  split at h1
  · cases h1
  · have h2 := Option.some.inj h1
    have := List.count_le_length (a := p.1) (l := xs)
    omega
/-- least and greatest of the keys, and of what was counted -/
theorem least_eq {xs : List Int} {a b : Int} (h1 : a ∈ xs) (h2 : ∀ y ∈ xs, a ≤ y) (h3 : b ∈ (tally xs).map (·.1)) (h4 : ∀ y ∈ (tally xs).map (·.1), b ≤ y) : a = b :=
  Int.le_antisymm (h2 b ((tally_mem xs b).mp h3)) (h4 a ((tally_mem xs a).mpr h1))
theorem most_eq {xs : List Int} {a b : Int} (h1 : a ∈ xs) (h2 : ∀ y ∈ xs, y ≤ a) (h3 : b ∈ (tally xs).map (·.1)) (h4 : ∀ y ∈ (tally xs).map (·.1), y ≤ b) : a = b :=
  Int.le_antisymm (h4 a ((tally_mem xs a).mpr h1)) (h2 b ((tally_mem xs b).mp h3))
end Wp
set_option Elab.async false
set_option linter.all false
set_option maxRecDepth 100000
set_option maxHeartbeats 4000000
/-! repr of data: how long it is at most. -/
namespace Wp
open PySem PySem.Spec PyProof.Rows L2
mutual
/-- no dicts, ints below 10 ^ 60 -/
def smI : PyData → Bool
  | .none => true
  | .bool _ => true
  | .int i => decide (i.natAbs < 10 ^ 60)
  | .str x => x.cps.toList.all fun c => decide (c < 16 ^ 8)
  | .list xs => smAll xs
  | .tuple xs => smAll xs
  | .dict _ => false
def smAll : List PyData → Bool
  | [] => true
  | x :: xs => smI x && smAll xs
end
mutual
def wz : PyData → Nat
  | .none => 4
  | .bool _ => 5
  | .int _ => 61
  | .str x => 10 * x.cps.size + 8
  | .list xs => wzAll xs + 3
  | .tuple xs => wzAll xs + 3
  | .dict _ => 0
def wzAll : List PyData → Nat
  | [] => 0
  | x :: xs => wz x + 2 + wzAll xs
end
theorem smAll_cons {x : PyData} {xs : List PyData} : smAll (x :: xs) = (smI x && smAll xs) := by rw [smAll]
theorem shownAll_len : ∀ xs : List PyData, (PyData.shownAll xs).length = xs.length
  | [] => by simp [PyData.shownAll]
  | x :: xs => by simp [PyData.shownAll, shownAll_len xs]
mutual
theorem shown_wz : ∀ d : PyData, smI d = true → d.shown.length ≤ wz d
  | .none, _ => by
    simp only [PyData.shown, wz]
    decide
  | .bool b, _ => by
    simp only [PyData.shown, wz]
    cases b <;> decide
  | .int i, h => by
    have e := int_text_length_le10 (k := 60) (by decide) (of_decide_eq_true (by simpa [smI] using h))
    simp only [PyData.shown, wz]
    rw [PySem.ofString_length]
    exact e
  | .str x, h => by
    have e := PyData.shown_le 8 (by decide) (.str x) (by simpa [PyData.leavesShort, smI] using h)
    simp only [PyData.weight] at e
    simp only [wz]
    omega
  | .list xs, h => by
    have h1 := shown_wzAll xs (by simpa [smI] using h)
    have h2 := listText_len_le (PyData.shownAll xs)
    rw [shownAll_len] at h2
    simp only [PyData.shown, wz]
    omega
  | .tuple xs, h => by
    have h1 := shown_wzAll xs (by simpa [smI] using h)
    have h2 := tupleText_len_le (PyData.shownAll xs)
    rw [shownAll_len] at h2
    simp only [PyData.shown, wz]
    omega
  | .dict kvs, h => by simp [smI] at h
theorem shown_wzAll : ∀ xs : List PyData, smAll xs = true → ((PyData.shownAll xs).map (·.length)).sum + 2 * xs.length ≤ wzAll xs
  | [], _ => by simp [PyData.shownAll, wzAll]
  | x :: xs, h => by
    rw [smAll_cons] at h
    obtain ⟨h1, h2⟩ := Bool.and_eq_true_iff.mp h
    have e1 := shown_wz x h1
    have e2 := shown_wzAll xs h2
    simp only [PyData.shownAll, List.map_cons, List.sum_cons, List.length_cons, wzAll]
    omega
end
mutual
theorem show_sm : ∀ d : PyData, smI d = true → d.showable = true ∧ d.hasDict = false
  | .none, _ => by simp [PyData.showable, PyData.hasDict]
  | .bool b, _ => by simp [PyData.showable, PyData.hasDict]
  | .int i, h => by
    have e : i.natAbs < 10 ^ 60 := of_decide_eq_true (by simpa [smI] using h)
    refine ⟨?_, by simp [PyData.hasDict]⟩
    simp only [PyData.showable, decide_eq_true_eq]
    by_cases h0 : i.natAbs = 0
    · rw [h0]
      decide
    · exact (Nat.log2_lt h0).mpr (Nat.lt_of_lt_of_le e (by decide +kernel))
  | .str x, _ => by simp [PyData.showable, PyData.hasDict]
  | .list xs, h => by
    have e := show_smAll xs (by simpa [smI] using h)
    simpa [PyData.showable, PyData.hasDict] using e
  | .tuple xs, h => by
    have e := show_smAll xs (by simpa [smI] using h)
    simpa [PyData.showable, PyData.hasDict] using e
  | .dict kvs, h => by simp [smI] at h
theorem show_smAll : ∀ xs : List PyData, smAll xs = true → PyData.showableAll xs = true ∧ PyData.hasDictAll xs = false
  | [], _ => by simp [PyData.showableAll, PyData.hasDictAll]
  | x :: xs, h => by
    rw [smAll_cons] at h
    obtain ⟨h1, h2⟩ := Bool.and_eq_true_iff.mp h
    obtain ⟨e1, e2⟩ := show_sm x h1
    obtain ⟨e3, e4⟩ := show_smAll xs h2
    simp [PyData.showableAll, PyData.hasDictAll, e1, e2, e3, e4]
end
section
variable {K : PySem.W.Frag} {H : Hp} {Q : VK} {v : V} {d : PyData}
theorem r_repr (hd : Dp K H v d) (h1 : smI d = true) (h2 : d.depth ≤ 60) (h3 : wz d ≤ 16777216) (q : Q (.str d.shown) H) : rRepr K [v] H Q := by
  obtain ⟨e1, e2⟩ := show_sm d h1
  exact ⟨v, d, rfl, hd, e1, h2, by rw [sizeLine_eq]; exact Nat.le_trans (shown_wz d h1) h3, e2, q⟩
theorem sm_ints : ∀ {ns : List Int}, (∀ n ∈ ns, n.natAbs < 10 ^ 60) → smAll (ns.map PyData.int) = true
  | [], _ => by simp [smAll]
  | n :: r, h => by
    rw [List.map_cons, smAll_cons, sm_ints fun m hm => h m (List.mem_cons_of_mem _ hm)]
    simp [smI, h n (List.mem_cons_self ..)]
theorem wz_ints : ∀ ns : List Int, wzAll (ns.map PyData.int) = 63 * ns.length
  | [] => by simp [wzAll]
  | n :: r => by
    simp only [List.map_cons, wzAll, wz, List.length_cons]
    rw [wz_ints r]
    omega
end
end Wp
set_option Elab.async false
set_option linter.all false
set_option maxRecDepth 100000
set_option maxHeartbeats 4000000
/-! Dicts from ints to ints; lists of pairs of ints. -/
namespace Wp
open PySem PySem.Spec PyProof.Rows L2
def encT (t : List (Int × Int)) : List (Key × V) := t.map fun p => (Sum.inl p.1, V.int p.2)
theorem valV_enc (z : Int) : ∀ t : List (Int × Int), valV (encT t) (Sum.inl z : Key) = (lookT t z).map V.int
  | [] => rfl
  | (k, c) :: r => by
    have := valV_enc z r
    show valV ((Sum.inl k, V.int c) :: encT r) (Sum.inl z : Key) = (if k = z then some c else lookT r z).map V.int
    by_cases h : k = z
    · rw [if_pos h, valV_pos (by rw [h])]
      rfl
    · rw [if_neg h, valV_neg (fun e => h (Sum.inl.inj e)), this]
theorem enc_any (z : Int) : ∀ t : List (Int × Int), ((encT t).any fun kv => decide (kv.1 = (Sum.inl z : Key))) = t.any fun p => decide (p.1 = z)
  | [] => rfl
  | (k, c) :: r => by
    have := enc_any z r
    show (decide ((Sum.inl k : Key) = Sum.inl z) || (encT r).any _) = (decide (k = z) || r.any _)
    rw [this]
    congr 1
    exact decide_eq_decide.mpr ⟨fun e => Sum.inl.inj e, fun e => by rw [e]⟩
theorem putK_enc (t : List (Int × Int)) (z c : Int) : putK (encT t) (Sum.inl z : Key) (.int c) = encT (putI t z c) := by
  unfold putK putI
  rw [enc_any]
  split
  · unfold encT
    rw [List.map_map, List.map_map]
    refine List.map_congr_left fun p _ => ?_
    show (if (Sum.inl p.1 : Key) = Sum.inl z then (Sum.inl p.1, V.int c) else (Sum.inl p.1, V.int p.2)) = (Sum.inl (if p.1 = z then (p.1, c) else p).1, V.int (if p.1 = z then (p.1, c) else p).2)
    by_cases h : p.1 = z
    · rw [if_pos (by rw [h]), if_pos h]
    · rw [if_neg (fun e => h (Sum.inl.inj e)), if_neg h]
  · unfold encT
    rw [List.map_append]
    rfl
theorem enc_keys (t : List (Int × Int)) : (encT t).map (·.1) = (t.map (·.1)).map (Sum.inl : Int → Key) := by
  unfold encT
  rw [List.map_map, List.map_map]
  rfl
theorem enc_kV (t : List (Int × Int)) : ((encT t).map fun kv => kV kv.1) = (t.map (·.1)).map V.int := by
  unfold encT
  rw [List.map_map, List.map_map]
  rfl
theorem enc_len (t : List (Int × Int)) : (encT t).length = t.length := List.length_map _
/-- pairs of ints in tuples -/
inductive PLs (H : Hp) : List V → List (Int × Int) → Prop
  | nil : PLs H [] []
  | cons {t : Addr} {a b : Int} {vs : List V} {ps : List (Int × Int)} : H t = some (.tup [.int a, .int b]) → PLs H vs ps → PLs H (.ref t :: vs) ((a, b) :: ps)
theorem PLs.keep {H H' : Hp} {vs : List V} {ps : List (Int × Int)} (h : PLs H vs ps) (e : ∀ t xs, H t = some (.tup xs) → H' t = some (.tup xs)) : PLs H' vs ps := by
  induction h with
  | nil => exact .nil
  | cons h _ ih => exact .cons (e _ _ h) ih
theorem PLs.snoc {H : Hp} {vs : List V} {ps : List (Int × Int)} {t : Addr} {a b : Int} (h : PLs H vs ps) (ht : H t = some (.tup [.int a, .int b])) : PLs H (vs ++ [.ref t]) (ps ++ [(a, b)]) := by
  induction h with
  | nil => exact .cons ht .nil
  | cons h _ ih => exact .cons h ih
theorem PLs.len {H : Hp} {vs : List V} {ps : List (Int × Int)} (h : PLs H vs ps) : vs.length = ps.length := by
  induction h with
  | nil => rfl
  | cons _ _ ih => simp [ih]
def encP (p : Int × Int) : PyData := .tuple [.int p.1, .int p.2]
theorem PLs.dp {K : PySem.W.Frag} {H : Hp} {vs : List V} {ps : List (Int × Int)} (h : PLs H vs ps) : DpAll K H vs (ps.map encP) := by
  induction h with
  | nil => exact .nil
  | cons h _ ih => exact .cons (.tup (SqT.of h) (.cons (.int _) (.cons (.int _) .nil))) ih
theorem PLs.of_items {H : Hp} : ∀ {ts : List Addr} {t : List (Int × Int)}, Paired (fun (t : Addr) (q : Key × V) => H t = some (.tup [kV q.1, q.2])) ts (encT t) → PLs H (ts.map V.ref) t
  | [], [], _ => .nil
  | _ :: _, (a, b) :: r, .cons h hr => .cons h (of_items hr)
theorem sm_pairs : ∀ {ps : List (Int × Int)}, (∀ p ∈ ps, p.1.natAbs < 10 ^ 60 ∧ p.2.natAbs < 10 ^ 60) → smAll (ps.map encP) = true ∧ wzAll (ps.map encP) = 131 * ps.length
  | [], _ => ⟨rfl, by simp [wzAll]⟩
  | r :: rs, h => by
    obtain ⟨h1, h2⟩ := sm_pairs fun r' hr' => h r' (List.mem_cons_of_mem _ hr')
    obtain ⟨a1, a2⟩ := h r (List.mem_cons_self ..)
    constructor
    · rw [List.map_cons, smAll_cons, h1, Bool.and_true]
      simp only [encP, smI, smAll_cons]
      rw [decide_eq_true a1, decide_eq_true a2]
      simp [smAll]
    · rw [List.map_cons, wzAll]
      simp only [encP, wz, wzAll, List.length_cons]
      omega
theorem depth_pairs : ∀ rs : List (Int × Int), PyData.depthAll (rs.map encP) ≤ 2
  | [] => by simp [PyData.depthAll]
  | r :: rs => by
    have := depth_pairs rs
    simp only [List.map_cons, PyData.depthAll, encP, PyData.depth]
    omega
section
variable {K : PySem.W.Frag} {H : Hp} {p a b : Addr} {vs : List V} {ps : List (Int × Int)} {Q : VK} {σ : L2.St} {te td ty tx : TE} {t u : List (Int × Int)} {i j : Int} {D : Ends}
theorem r_reprP (h : SqL K H p vs) (hr : PLs H vs ps) (ok : ∀ p ∈ ps, p.1.natAbs < 10 ^ 60 ∧ p.2.natAbs < 10 ^ 60) (hz : ps.length ≤ 1000) (q : Q (.str (PyData.list (ps.map encP)).shown) H) : rRepr K [.ref p] H Q := by
  obtain ⟨h1, h2⟩ := sm_pairs ok
  refine r_repr (d := .list (ps.map encP)) (.lst h hr.dp) ?_ ?_ ?_ q
  · simpa [smI] using h1
  · have := depth_pairs ps
    simp only [PyData.depth]
    omega
  · simp only [wz]
    omega
theorem r_reprI {ns : List Int} (h : SqL K H p (ns.map V.int)) (ok : ∀ n ∈ ns, n.natAbs < 10 ^ 60) (hz : ns.length ≤ 1000) (q : Q (.str (PyData.list (ns.map PyData.int)).shown) H) : rRepr K [.ref p] H Q := by
  refine r_repr (d := .list (ns.map PyData.int)) (.lst h (dp_ints ns)) ?_ ?_ ?_ q
  · simpa [smI] using sm_ints ok
  · have := dep_ints ns
    simp only [PyData.depth]
    omega
  · simp only [wz]
    rw [wz_ints]
    omega
def kDGet2z (a : Addr) (Q : VK) (y : V) : VK := fun z H3 => ∃ o, DGet H3 a y o ∧ Q (o.getD z) H3
def kDGet2 (ty tx : TE) (σ : L2.St) (Q : VK) : VK := fun x H1 => ∃ a, x = .ref a ∧ IsD H1 a ∧ ty σ H1 fun y H2 => tx σ H2 (kDGet2z a Q y)
theorem r_dget2 (q : td σ H (kDGet2 ty tx σ Q)) : tDGet2 td ty tx σ H Q := q
theorem r_kDGet2 {kvs : List (Key × V)} (h : H a = some (.dK kvs)) (q : ty σ H fun y H2 => tx σ H2 (kDGet2z a Q y)) : kDGet2 ty tx σ Q (.ref a) H := ⟨a, rfl, .inl ⟨kvs, .inl h⟩, q⟩
theorem r_kDGet2z (h : H a = some (.dK (encT t))) (q : Q (.int ((lookT t i).getD j)) H) : kDGet2z a Q (.int i) (.int j) H := by
  refine ⟨_, .inl ⟨encT t, Sum.inl i, .inl h, rfl, rfl⟩, ?_⟩
  rw [valV_enc]
  cases h : lookT t i with
  | none => rw [h] at q; exact q
  | some c => rw [h] at q; exact q
theorem r_kDGetT {c : Int} (h : H a = some (.dK (encT t))) (e : lookT t i = some c) (q : Q (.int c) H) : kDGet Q (.ref a) (.int i) H := r_kDGetI h (by rw [valV_enc, e]; rfl) q
theorem r_kDPutT {c : Int} (h : H a = some (.dK (encT t))) (hz : t.length < 1000000) (q : ∀ H', But a H H' → H' a = some (.dK (encT (putI t i c))) → D.nx σ H') : kDPut D σ (.int c) (.ref a) (.int i) H :=
  ⟨a, _, rfl, .inl ⟨encT t, Sum.inl i, h, rfl, sz6 (by rw [enc_len]; exact hz), rfl⟩, q _ But.upd (by rw [← putK_enc]; exact upd_same)⟩
theorem r_neDT {xs ys : List Int} (h1 : H a = some (.dK (encT (tally xs)))) (h2 : H b = some (.dK (encT (tally ys)))) (pm : xs.Perm ys) (q : Q (.bl false) H) : rNeDA (.ref a) (.ref b) H Q := by
  refine ⟨a, b, _, _, rfl, rfl, h1, h2, by rw [enc_len, enc_len]; exact tally_perm_len pm, fun kv hkv => ?_, q⟩
  obtain ⟨z, hz, rfl⟩ := List.mem_map.mp hkv
  refine ⟨?_, rfl⟩
  show valV (encT (tally ys)) (Sum.inl z.1 : Key) = some (V.int z.2)
  rw [valV_enc, ← tally_perm_look pm, look_of_mem (tally_nd xs) hz]
  rfl
def kItems (Q : VK) : VK := fun x H1 => LiI.rItemsL x H1 Q
theorem r_listItems (q : te σ H (kItems Q)) : LiI.tListItems te σ H Q := q
theorem r_kItems (h : H a = some (.dK (encT t))) (q : ∀ p ws H', H p = none → Same H H' → H' p = some (.lst ws) → PLs H' ws t → Q (.ref p) H') : kItems Q (.ref a) H :=
  ⟨a, _, rfl, h, fun H' p ts e np _ _ hp hq => q p _ H' np e hp (PLs.of_items hq)⟩
def kBM0 (K : PySem.W.Frag) (T : String) (r : V → List V → Hp → VK → Prop) (Q : VK) : VK := fun x H1 => tyV K T x H1 ∧ r x [] H1 Q
theorem r_bm0 {T : String} {r : V → List V → Hp → VK → Prop} (q : te σ H (kBM0 K T r Q)) : tBM0 K T r te σ H Q := q
theorem r_kClear {kvs : List (Key × V)} (h : H a = some (.dK kvs)) (q : ∀ H', But a H H' → H' a = some (.dK []) → Q .non H') : kBM0 K "dict" rDClear Q (.ref a) H :=
  ⟨.inr (.inr (.inl ⟨rfl, .inl ⟨kvs, h⟩⟩)), a, kvs, rfl, rfl, h, q _ But.upd upd_same⟩
theorem r_sortedI {ns : List Int} (h : SqL K H a (ns.map V.int)) (q : ∀ (ms : List Int) (p : Addr) (H' : Hp), ms.Perm ns → ms.Pairwise (· ≤ ·) → H p = none → Same H H' → H' p = some (.lst (ms.map V.int)) → Q (.ref p) H') : rSortedI K [.ref a] H Q :=
  ⟨a, ns, rfl, h, fun ms p pm ha hp => q ms p _ pm ha hp (Same.new hp) upd_same⟩
def rSortedDI : List V → Hp → VK → Prop := fun xs H Q => ∃ (a : Addr) (kvs : List (Key × V)) (ks : List Int), xs = [.ref a] ∧ Rd H a (.dK kvs) ∧ kvs.map (·.1) = ks.map Sum.inl ∧ ks.length < 64 ∧
    ∀ (ys : List Int) (p : Addr), ys.Perm ks → ys.Pairwise (· ≤ ·) → H p = none → Q (.ref p) (upd H p (.lst (ys.map V.int)))
theorem r_sortedDI (h : H a = some (.dK (encT t))) (hl : t.length < 64) (q : ∀ (ys : List Int) (p : Addr) (H' : Hp), ys.Perm (t.map (·.1)) → ys.Pairwise (· ≤ ·) → H p = none → Same H H' → H' p = some (.lst (ys.map V.int)) → Q (.ref p) H') : rSortedDI [.ref a] H Q :=
  ⟨a, _, t.map (·.1), rfl, .inl h, enc_keys t, by rw [List.length_map]; exact hl, fun ys p pm ha hp => q ys p _ pm ha hp (Same.new hp) upd_same⟩
theorem r_listDT (h : H p = some (.dK (encT t))) (k : ∀ q H', H q = none → Same H H' → H' q = some (.lst ((t.map (·.1)).map V.int)) → Q (.ref q) H') : rListD' [.ref p] H Q :=
  r_listD h fun q H' nq e hq => k q H' nq e (by rw [← enc_kV]; exact hq)
theorem r_minI {ns : List Int} (h : SqL K H p (ns.map V.int)) (h0 : 0 < ns.length) (k : ∀ m, m ∈ ns → (∀ y ∈ ns, m ≤ y) → Q (.int m) H) : rMin K [.ref p] H Q := ⟨p, ns, rfl, h, h0, k⟩
theorem r_maxI {ns : List Int} (h : SqL K H p (ns.map V.int)) (h0 : 0 < ns.length) (k : ∀ m, m ∈ ns → (∀ y ∈ ns, y ≤ m) → Q (.int m) H) : rMax K [.ref p] H Q := ⟨p, ns, rfl, h, h0, k⟩
theorem cutV_takeL {xs : List V} {i : Int} (h0 : 0 ≤ i) : cutV xs none (some i) = xs.take i.toNat := by
  have e : HT.sIx xs.length xs.length (some i) = min i.toNat xs.length := by
    show (if i < 0 then (i + (xs.length : Int)).toNat else min i.toNat xs.length) = _
    rw [if_neg (by omega)]
  unfold cutV
  rw [e]
  show (xs.drop 0).take (min i.toNat xs.length - 0) = _
  rw [List.drop_zero, Nat.sub_zero]
  by_cases h : i.toNat ≤ xs.length
  · rw [Nat.min_eq_left h]
  · rw [Nat.min_eq_right (by omega), List.take_length, List.take_of_length_le (by omega)]
theorem r_slL_take {xs : List V} (h : SqL K H p xs) (h0 : 0 ≤ i) (q : ∀ t H', H t = none → Same H H' → H' t = some (.lst (xs.take i.toNat)) → Q (.ref t) H') : rSlL K (.ref p) none (some i) H Q := by
  refine ⟨p, xs, rfl, h, fun t ht => ?_⟩
  rw [cutV_takeL h0]
  exact q t _ ht (Same.new ht) upd_same
end
section
variable {X : Cx} {K : PySem.W.Frag}
theorem c_sortedIK (h : X.K = K) : CallR X (.builtin "sorted") (rSortedI K) := by subst h; exact cr_sortedI
theorem c_sortedDI (hc : X.calm = true) : CallR X (.builtin "sorted") rSortedDI := call_sortedDI hc
theorem neDAK (hu : X.A.units + 64 < cLine) : OpR X (compareOp .NotEq) rNeDA := op_ne_dictA (by omega)
theorem pe_dclearK {o : Expr} {to : TE} {apos cpos : Pos} (h : X.K = K) (ho : PE X o to) (hbase : attributeBase o "clear" X.env (eval o X.env) = eval o X.env := by rfl) (hline : (apos.endLine == cpos.line) = true := by rfl) : PE X (.Call (.Attribute o "clear" apos) [] [] cpos) (tBM0 K "dict" rDClear to) := by
  subst h
  exact pe_dclear ho hbase hline
end
end Wp
set_option Elab.async false
set_option linter.all false
set_option maxRecDepth 100000
set_option maxHeartbeats 4000000
namespace Wp
open PySem PySem.Spec PyProof.Rows L2
theorem Bk.Ok.ls {B : Bk} (ok : B.Ok) : LsOk B.ls := ⟨ok.l1, ok.l2, ok.l3⟩
theorem first_eq (B : Bk) (m : Int) : B.first m = firstL B.ls m := rfl
theorem Bk.Ok.due31 {B : Bk} (ok : B.Ok) : B.due + 1 ≤ 31 := by
  have l1 := ok.l1
  obtain ⟨x, hx⟩ := List.exists_mem_of_length_pos (show 0 < B.ls.length by omega)
  have := ok.l3 x hx
  have := ok.d1 x hx
  omega
end Wp
set_option Elab.async false
set_option linter.all false
set_option maxRecDepth 100000
set_option maxHeartbeats 4000000
/-! need_number, Book.month_at. -/
namespace Wp
open PySem PySem.Spec PyProof.Rows L2
abbrev s_need_number : Stmt := topS 28
abbrev s_Book_month_at : Stmt := inClass (topS 29) 12
local macro_rules | `(tactic| walk_at "val") => `(tactic| assumption)
local macro_rules | `(tactic| walk_at "rd1") => `(tactic| first
  | with_reducible refine r_seq ?_ | with_reducible refine r_next ?_ | with_reducible refine r_if ?_ | with_reducible refine r_asg ?_ | with_reducible refine r_gname ?_
  | with_reducible refine r_ret ?_ | with_reducible refine r_retN ?_ | with_reducible refine r_drop ?_ | with_reducible refine r_par ?_ | with_reducible refine r_kPar ?_
  | ((with_reducible refine' r_var ?hv ?_); (case hv => exact rfl)) | with_reducible refine r_c ?_ | with_reducible refine r_nil ?_ | with_reducible refine r_cons ?_
  | with_reducible refine r_fn ?_ | with_reducible refine r_cb ?_ | with_reducible refine r_op ?_ | with_reducible refine r_un ?_ | with_reducible refine r_I0 ?_
  | with_reducible refine r_pow5 ?_ | with_reducible refine r_pow6 ?_ | with_reducible refine r_pow7 ?_ | with_reducible refine r_pow9 ?_ | with_reducible refine r_pow18 ?_ | with_reducible refine r_pow20 ?_ | with_reducible refine r_pow30 ?_
  | with_reducible refine r_isN_non ?_ | with_reducible refine r_isN_ref ?_ | with_reducible refine r_isN_int ?_ | with_reducible refine r_isN_str ?_ | with_reducible refine r_isN_bl ?_ | with_reducible refine r_notN_non ?_ | with_reducible refine r_notN_ref ?_ | with_reducible refine r_notN_int ?_ | with_reducible refine r_notN_str ?_ | with_reducible refine r_notN_bl ?_
  | ((with_reducible refine r_I ?hc ?_); (case hc => walk_at "side")) | with_reducible refine r_U ?_
  | with_reducible refine r_eqI ?_ | with_reducible refine r_neI ?_ | with_reducible refine r_eqS ?_ | with_reducible refine r_neS ?_ | with_reducible refine r_eqB ?_ | with_reducible refine r_neB ?_
  | with_reducible refine r_chain ?_ | with_reducible refine r_test ?_ | with_reducible refine r_tB ?_ | with_reducible refine r_kTest ?_ | with_reducible refine r_not ?_
  | with_reducible refine r_and ?_ | with_reducible refine r_or ?_ | with_reducible refine r_tif ?_ | with_reducible refine r_andV ?_ | with_reducible refine r_orV ?_ | with_reducible refine r_notV ?_
  | with_reducible refine r_kAndV ?_ | with_reducible refine r_kOrV ?_ | with_reducible refine r_kNotV ?_
  | with_reducible refine w_T ?_ | with_reducible refine w_F ?_ | with_reducible refine w_NT ?_ | with_reducible refine w_NF ?_
  | with_reducible refine r_tup ?_ | with_reducible refine r_lst ?_ | with_reducible refine r_fld ?_ | with_reducible refine r_prop ?_ | ((with_reducible refine' r_aug ?h1 ?_); (case h1 => exact rfl)) | with_reducible refine r_ipI ?_ | with_reducible refine r_dget ?_ | with_reducible refine r_dput ?_ | with_reducible refine r_bm ?_
  | ((with_reducible refine' r_kDGetS ?h1 ?h2 ?_); (case h1 => assumption); (case h2 => walk_at "val"))
  | ((with_reducible refine' r_kBML ?h1 ?_); (case h1 => assumption))
  | with_reducible refine r_forL ?_ | with_reducible refine r_forR1 ?_ | with_reducible refine r_forR2 ?_ | with_reducible refine r_forT ?_ | with_reducible refine r_lcL ?_ | with_reducible refine r_lcR1 ?_
  | ((with_reducible refine r_kLcG ?hw ?_); (case hw => exact rfl)) | with_reducible refine r_kLcT ?_ | with_reducible refine r_yes ?_
  | with_reducible refine r_pnil ?_ | with_reducible refine r_pcons ?_
  | with_reducible refine r_fnK ?_ | ((with_reducible refine r_kFnK ?hl ?_); (case hl => exact rfl))
  | with_reducible refine r_isi_ii ?_ | with_reducible refine r_isi_ib ?_ | with_reducible refine r_isi_bi ?_ | with_reducible refine r_isi_bb ?_ | with_reducible refine r_isi_ss ?_ | with_reducible refine r_isi_is ?_ | with_reducible refine r_isi_it ?_
  | ((with_reducible refine' r_isi_tt ?h1 ?_); (case h1 => assumption))
  | with_reducible refine r_sfld ?_ | with_reducible refine r_gnil ?_ | with_reducible refine r_gcons ?_
  | ((with_reducible refine' r_gtup ?h1 ?h2 ?_); (case h1 => exact SqT.of (by assumption)); (case h2 => exact rfl))
  | with_reducible refine r_sl ?_ | with_reducible refine r_noPart ?_ | with_reducible refine r_part ?_ | with_reducible refine r_kPart ?_ | with_reducible refine r_m1 ?_ | with_reducible refine r_kM1 ?_ | with_reducible refine r_forS ?_ | with_reducible refine r_lcS ?_ | with_reducible refine r_lcTu ?_ | with_reducible refine r_lcK ?_ | with_reducible refine r_dcL ?_ | with_reducible refine r_dcK ?_ | with_reducible refine r_lc2L ?_ | with_reducible refine r_kLc2TL ?_ | with_reducible refine r_dcEn ?_ | with_reducible refine r_gslc ?_ | with_reducible refine r_lcEn ?_ | with_reducible refine r_lcEl ?_ | with_reducible refine r_lcR2 ?_ | with_reducible refine r_rg1 ?_ | with_reducible refine r_forET ?_ | with_reducible refine r_lenD ?_
  | ((with_reducible refine r_kDcG ?hw ?_); (case hw => exact rfl)) | with_reducible refine r_kDcT ?_
  | with_reducible refine r_fldaug ?_ | with_reducible refine r_daug ?_ | with_reducible refine r_rAdd ?_ | with_reducible refine r_rSub ?_ | with_reducible refine r_ddel ?_ | with_reducible refine r_bmF ?_ | with_reducible refine r_dget2 ?_ | with_reducible refine r_listItems ?_ | with_reducible refine r_bm0 ?_ | with_reducible refine r_lc2E ?_ | ((with_reducible refine r_kLc2G ?hw ?_); (case hw => exact rfl)) | with_reducible refine r_kLc2T ?_ | with_reducible refine r_forE ?_ | with_reducible refine r_orT ?_ | with_reducible refine r_din ?_ | with_reducible refine r_augS ?_ | with_reducible refine r_dnotin ?_ | with_reducible refine r_lcIT ?_ | with_reducible refine r_cont ?_ | with_reducible refine r_meth ?_ | with_reducible refine r_frz ?_ | with_reducible refine r_par3 ?_ | with_reducible refine r_kPar3 ?_ | with_reducible refine r_dz ?_ | with_reducible refine r_revL ?_ | with_reducible refine r_star ?_ | with_reducible refine r_int1 ?_ | with_reducible refine r_int1b ?_ | with_reducible refine r_min2 ?_ | with_reducible refine r_max2 ?_ | with_reducible refine r_gsub ?_)
local macro_rules | `(tactic| walk_at "rd") => `(tactic| repeat walk_at "rd1")
local macro_rules | `(tactic| walk_at "side") => `(tactic| first | assumption | exact Or.inr ⟨by decide, by decide⟩ | exact Or.inl ⟨by decide, by decide⟩ | (constructor <;> omega) | omega | decide | (refine Or.inl ⟨?_, ?_⟩ <;> omega) | (refine Or.inr ⟨?_, ?_⟩ <;> omega) | (refine ⟨?_, ?_, ?_⟩ <;> first | decide | omega))
def sp_need_number : Sp := fun vs H Q _ => ∃ i : Int, vs = [.int i] ∧ 0 ≤ i ∧ i ≤ 2000 ∧ Q .non H
def sp_month_at (C : Addr) : Sp := fun vs H Q _ => ∃ (p : Addr) (B : Bk) (d : Int), vs = [.ref p, .int d] ∧ BookAt C H p B ∧ B.Ok ∧ Q (.int (monthL B.ls d)) H
section
variable {P : Program} {w : World} {K : PySem.W.Frag} {mg : Str → Option Value} {base : Heap}
theorem ok_need_number {f : Addr} {fd : FuncData} (T : Tx K mg) (F : FnP K "need_number" s_need_number f fd) (d_is_number_in : Dn P w K mg base CX0 2 "is_number_in" ["value", "least", "most"] (sp_is_number_in K)) :
    FnOk P w K mg base CX0 3 f fd ["value"] sp_need_number := by
  have sc : FnScope ["value"] ["value"] (defScope s_need_number) := ⟨rfl, rfl, rfl, by decide +kernel, rfl, by decide +kernel, by decide +kernel⟩
  refine F.ok sc (by rintro vs H Q E ⟨_, rfl, _⟩; rfl) (fun cdv A outer s H vs Q E hr h => ⟨_, PSs.nox ((pss_one (ps_if (pt_not (pt_val (pe_fn d_is_number_in (hr.mono (by decide)) pass0 (pa_cons (pv 0) (pa_cons pe_int (pa_cons (pe_glob (v := .int 2000) (by rfl) T.c_MOST_DAY.choose_spec ⟨_, rfl⟩) pa_nil)))))) (pss_one ps_never) pss_nil))), ?_⟩)
  obtain ⟨i, rfl, h0, h1, q⟩ := h
  walk_at "rd"
  refine u_in ⟨h0, h1⟩ ?_
  walk_at "rd"
  exact q
theorem ok_Book_month_at {f C : Addr} {fd : FuncData} (T : Tx K mg) (bc : BkC K C) (F : FunD K "month_at" "Book.month_at" (defArgs s_Book_month_at) (defBody s_Book_month_at) (defScope s_Book_month_at) [] [] f fd) :
    FnOk P w K mg base CX0 1 f fd ["self", "day"] (sp_month_at C) := by
  have sc : FnScope ["self", "day", "many", "month", "left"] ["self", "day"] (defScope s_Book_month_at) := ⟨rfl, rfl, rfl, by decide +kernel, rfl, by decide +kernel, by decide +kernel⟩
  refine F.ok sc (by rintro vs H Q E ⟨_, _, _, rfl, _⟩; rfl) (fun cdv A outer s H vs Q E hr h => ⟨_, PSs.nox ((pss_cons (ps_set (i := 2) sc.nd rfl (by first | exact Or.inl rfl | exact Or.inr rfl) (pe_callB (c_lenK (K := K) rfl) (by rfl) T.b_len (by decide +kernel) (pa_cons (pe_fldK (K := K) rfl (pv 0)) pa_nil)))
      (pss_cons (ps_par (i := 3) (j := 4) (by rfl) sc.nd rfl rfl (by decide) rfl rfl (pa_cons (pe_op op_mul (pe_op op_fdiv (pv 1) (pe_callB (c_sumT (K := K) rfl rfl) (by rfl) T.b_sum (by decide +kernel) (pa_cons (pe_fldK (K := K) rfl (pv 0)) pa_nil))) (pv 2)) (pa_cons (pe_op op_mod (pv 1) (pe_callB (c_sumT (K := K) rfl rfl) (by rfl) T.b_sum (by decide +kernel) (pa_cons (pe_fldK (K := K) rfl (pv 0)) pa_nil))) pa_nil)) (by rfl))
      (pss_cons (ps_while PassesOwn.never (pt_cmpR op_ge (pv 4) (pe_ix (ix_tupK (K := K) rfl) (pe_fldK (K := K) rfl (pv 0)) (pe_op op_mod (pv 3) (pv 2)) (fun _ _ => rfl)) (nomark _)) (pss_cons (ps_aug (i := 4) sc.nd rfl (by first | exact Or.inl rfl | exact Or.inr rfl) (pe_ix (ix_tupK (K := K) rfl) (pe_fldK (K := K) rfl (pv 0)) (pe_op op_mod (pv 3) (pv 2)) (fun _ _ => rfl)) ip_sub)
      (pss_one (ps_aug (i := 3) sc.nd rfl (by first | exact Or.inl rfl | exact Or.inr rfl) pe_int ip_add))))
      (pss_one (ps_ret (pv 3))))))), ?_⟩)
  obtain ⟨p, B, d, rfl, ⟨dx, tl, kd, lv, kvs, hB⟩, ok, k⟩ := h
  have okl := ok.ls
  have hs := okl.sum
  have l1 := ok.l1
  have l2 := ok.l2
  have hr0 := Int.emod_nonneg d (b := B.ls.sum) (by omega)
  have hr1 := Int.emod_lt_of_pos d (b := B.ls.sum) (by omega)
  obtain ⟨c1, c2, c3⟩ := cntL_spec okl.l3 hr0 hr1
  walk_at "rd"
  refine r_kFld hB.i bc.cl bc.n1 rfl ?_
  walk_at "rd"
  refine r_lenT (SqT.of hB.l) ?_
  rw [List.length_map]
  walk_at "rd"
  refine r_kFld hB.i bc.cl bc.n1 rfl ?_
  walk_at "rd"
  refine r_sumT (SqT.of hB.l) ?_
  walk_at "rd"
  refine r_kFld hB.i bc.cl bc.n1 rfl ?_
  walk_at "rd"
  refine r_sumT (SqT.of hB.l) ?_
  walk_at "rd"
  refine r_while (fun m σ' H' => ∃ (j : Nat) (left x : Int), σ' = [some (.ref p), some (.int d), some (.int (B.ls.length : Int)), some (.int (d / B.ls.sum * (B.ls.length : Int) + (j : Int))), some (.int left)] ∧ H' = H ∧
      j + cntL (B.ls.drop j) left = cntL B.ls (d % B.ls.sum) ∧ j < B.ls.length ∧ B.ls[j]? = some x ∧ m = B.ls.length - j) B.ls.length ⟨0, d % B.ls.sum, _, by simp; rfl, rfl, by simp, by omega, List.getElem?_eq_getElem (by omega), by omega⟩ ?_
  rintro m σ' H' ⟨j, left, x, rfl, rfl, hc, hj, hx, rfl⟩
  have e2 : (d / B.ls.sum * (B.ls.length : Int) + (j : Int)) % (B.ls.length : Int) = (j : Int) := by
    rw [Int.add_comm, Int.add_mul_emod_self_right, Int.emod_eq_of_lt (by omega) (by omega)]
  have hx' : (B.ls.map V.int)[j]? = some (.int x) := by rw [List.getElem?_map, hx]; rfl
  rw [cntL_drop j hx] at hc
  walk_at "rd"
  refine r_kFld hB.i bc.cl bc.n1 rfl ?_
  walk_at "rd"
  refine r_ixT (SqT.of hB.l) (at_get (n := j) e2 hx') ?_
  walk_at "rd"
  refine r_kWh (fun h1 => ?_) (fun h1 => ?_)
  · have h1 := of_decide_eq_true h1
    rw [if_neg (by omega)] at hc
    walk_at "rd"
    refine r_kFld hB.i bc.cl bc.n1 rfl ?_
    walk_at "rd"
    refine r_ixT (SqT.of hB.l) (at_get (n := j) e2 hx') ?_
    walk_at "rd"
    refine ⟨B.ls.length - (j + 1), by omega, j + 1, left - x, B.ls[j + 1]'(by omega), ?_, rfl, by omega, by omega, List.getElem?_eq_getElem (by omega), rfl⟩
    simp
    omega
  · have h1 := of_decide_eq_false h1
    rw [if_pos (by omega)] at hc
    walk_at "rd"
    have e : monthL B.ls d = d / B.ls.sum * (B.ls.length : Int) + (j : Int) := by
      unfold monthL
      rw [← hc]
      simp
    rw [← e]
    exact k
end
end Wp
set_option Elab.async false
set_option linter.all false
set_option maxRecDepth 100000
set_option maxHeartbeats 4000000
namespace Wp
open PySem PySem.Spec PyProof.Rows L2
abbrev s_days_at : Stmt := topS 35
abbrev s_round_of : Stmt := topS 36
local macro_rules | `(tactic| walk_at "val") => `(tactic| assumption)
local macro_rules | `(tactic| walk_at "rd1") => `(tactic| first
  | with_reducible refine r_seq ?_ | with_reducible refine r_next ?_ | with_reducible refine r_if ?_ | with_reducible refine r_asg ?_ | with_reducible refine r_gname ?_
  | with_reducible refine r_ret ?_ | with_reducible refine r_retN ?_ | with_reducible refine r_drop ?_ | with_reducible refine r_par ?_ | with_reducible refine r_kPar ?_
  | ((with_reducible refine' r_var ?hv ?_); (case hv => exact rfl)) | with_reducible refine r_c ?_ | with_reducible refine r_nil ?_ | with_reducible refine r_cons ?_
  | with_reducible refine r_fn ?_ | with_reducible refine r_cb ?_ | with_reducible refine r_op ?_ | with_reducible refine r_un ?_ | with_reducible refine r_I0 ?_
  | with_reducible refine r_pow5 ?_ | with_reducible refine r_pow6 ?_ | with_reducible refine r_pow7 ?_ | with_reducible refine r_pow9 ?_ | with_reducible refine r_pow18 ?_ | with_reducible refine r_pow20 ?_ | with_reducible refine r_pow30 ?_
  | with_reducible refine r_isN_non ?_ | with_reducible refine r_isN_ref ?_ | with_reducible refine r_isN_int ?_ | with_reducible refine r_isN_str ?_ | with_reducible refine r_isN_bl ?_ | with_reducible refine r_notN_non ?_ | with_reducible refine r_notN_ref ?_ | with_reducible refine r_notN_int ?_ | with_reducible refine r_notN_str ?_ | with_reducible refine r_notN_bl ?_
  | ((with_reducible refine r_I ?hc ?_); (case hc => walk_at "side")) | with_reducible refine r_U ?_
  | with_reducible refine r_eqI ?_ | with_reducible refine r_neI ?_ | with_reducible refine r_eqS ?_ | with_reducible refine r_neS ?_ | with_reducible refine r_eqB ?_ | with_reducible refine r_neB ?_
  | with_reducible refine r_chain ?_ | with_reducible refine r_test ?_ | with_reducible refine r_tB ?_ | with_reducible refine r_kTest ?_ | with_reducible refine r_not ?_
  | with_reducible refine r_and ?_ | with_reducible refine r_or ?_ | with_reducible refine r_tif ?_ | with_reducible refine r_andV ?_ | with_reducible refine r_orV ?_ | with_reducible refine r_notV ?_
  | with_reducible refine r_kAndV ?_ | with_reducible refine r_kOrV ?_ | with_reducible refine r_kNotV ?_
  | with_reducible refine w_T ?_ | with_reducible refine w_F ?_ | with_reducible refine w_NT ?_ | with_reducible refine w_NF ?_
  | with_reducible refine r_tup ?_ | with_reducible refine r_lst ?_ | with_reducible refine r_fld ?_ | with_reducible refine r_prop ?_ | ((with_reducible refine' r_aug ?h1 ?_); (case h1 => exact rfl)) | with_reducible refine r_ipI ?_ | with_reducible refine r_dget ?_ | with_reducible refine r_dput ?_ | with_reducible refine r_bm ?_
  | ((with_reducible refine' r_kDGetS ?h1 ?h2 ?_); (case h1 => assumption); (case h2 => walk_at "val"))
  | ((with_reducible refine' r_kBML ?h1 ?_); (case h1 => assumption))
  | with_reducible refine r_forL ?_ | with_reducible refine r_forR1 ?_ | with_reducible refine r_forR2 ?_ | with_reducible refine r_forT ?_ | with_reducible refine r_lcL ?_ | with_reducible refine r_lcR1 ?_
  | ((with_reducible refine r_kLcG ?hw ?_); (case hw => exact rfl)) | with_reducible refine r_kLcT ?_ | with_reducible refine r_yes ?_
  | with_reducible refine r_pnil ?_ | with_reducible refine r_pcons ?_
  | with_reducible refine r_fnK ?_ | ((with_reducible refine r_kFnK ?hl ?_); (case hl => exact rfl))
  | with_reducible refine r_isi_ii ?_ | with_reducible refine r_isi_ib ?_ | with_reducible refine r_isi_bi ?_ | with_reducible refine r_isi_bb ?_ | with_reducible refine r_isi_ss ?_ | with_reducible refine r_isi_is ?_ | with_reducible refine r_isi_it ?_
  | ((with_reducible refine' r_isi_tt ?h1 ?_); (case h1 => assumption))
  | with_reducible refine r_sfld ?_ | with_reducible refine r_gnil ?_ | with_reducible refine r_gcons ?_
  | ((with_reducible refine' r_gtup ?h1 ?h2 ?_); (case h1 => exact SqT.of (by assumption)); (case h2 => exact rfl))
  | with_reducible refine r_sl ?_ | with_reducible refine r_noPart ?_ | with_reducible refine r_part ?_ | with_reducible refine r_kPart ?_ | with_reducible refine r_m1 ?_ | with_reducible refine r_kM1 ?_ | with_reducible refine r_forS ?_ | with_reducible refine r_lcS ?_ | with_reducible refine r_lcTu ?_ | with_reducible refine r_lcK ?_ | with_reducible refine r_dcL ?_ | with_reducible refine r_dcK ?_ | with_reducible refine r_lc2L ?_ | with_reducible refine r_kLc2TL ?_ | with_reducible refine r_dcEn ?_ | with_reducible refine r_gslc ?_ | with_reducible refine r_lcEn ?_ | with_reducible refine r_lcEl ?_ | with_reducible refine r_lcR2 ?_ | with_reducible refine r_rg1 ?_ | with_reducible refine r_forET ?_ | with_reducible refine r_lenD ?_
  | ((with_reducible refine r_kDcG ?hw ?_); (case hw => exact rfl)) | with_reducible refine r_kDcT ?_
  | with_reducible refine r_fldaug ?_ | with_reducible refine r_daug ?_ | with_reducible refine r_rAdd ?_ | with_reducible refine r_rSub ?_ | with_reducible refine r_ddel ?_ | with_reducible refine r_bmF ?_ | with_reducible refine r_dget2 ?_ | with_reducible refine r_listItems ?_ | with_reducible refine r_bm0 ?_ | with_reducible refine r_lc2E ?_ | ((with_reducible refine r_kLc2G ?hw ?_); (case hw => exact rfl)) | with_reducible refine r_kLc2T ?_ | with_reducible refine r_forE ?_ | with_reducible refine r_orT ?_ | with_reducible refine r_din ?_ | with_reducible refine r_augS ?_ | with_reducible refine r_dnotin ?_ | with_reducible refine r_lcIT ?_ | with_reducible refine r_cont ?_ | with_reducible refine r_meth ?_ | with_reducible refine r_frz ?_ | with_reducible refine r_par3 ?_ | with_reducible refine r_kPar3 ?_ | with_reducible refine r_dz ?_ | with_reducible refine r_revL ?_ | with_reducible refine r_star ?_ | with_reducible refine r_int1 ?_ | with_reducible refine r_int1b ?_ | with_reducible refine r_min2 ?_ | with_reducible refine r_max2 ?_ | with_reducible refine r_gsub ?_)
local macro_rules | `(tactic| walk_at "rd") => `(tactic| repeat walk_at "rd1")
local macro_rules | `(tactic| walk_at "side") => `(tactic| first | assumption | exact Or.inr ⟨by decide, by decide⟩ | exact Or.inl ⟨by decide, by decide⟩ | (constructor <;> omega) | omega | decide | (refine Or.inl ⟨?_, ?_⟩ <;> omega) | (refine Or.inr ⟨?_, ?_⟩ <;> omega) | (refine ⟨?_, ?_, ?_⟩ <;> first | decide | omega))
def sp_days_at (C : Addr) : Sp := fun vs H Q _ => ∃ (p : Addr) (B : Bk) (d : Int), vs = [.ref p, .int d] ∧ BookAt C H p B ∧ B.Ok ∧ ∀ H', Same H H' → Q (.int (fdL B.ls B.due d)) H'
def sp_free_days (C : Addr) : Sp := fun vs H Q _ => ∃ (p : Addr) (B : Bk) (d : Int), vs = [.ref p, .int d] ∧ BookAt C H p B ∧ B.Ok ∧ 0 ≤ d ∧ d ≤ 2000 ∧ ∀ H', Same H H' → Q (.int (fdL B.ls B.due d)) H'
def sp_round_of (C : Addr) : Sp := fun vs H Q _ => ∃ (p : Addr) (B : Bk), vs = [.ref p] ∧ BookAt C H p B ∧ B.Ok ∧ ∀ t H', H t = none → Same H H' → H' t = some (.lst ((rnd B.ls B.due).map V.int)) → Q (.ref t) H'
def sp_least_free (C : Addr) : Sp := fun vs H Q _ => ∃ (p : Addr) (B : Bk), vs = [.ref p] ∧ BookAt C H p B ∧ B.Ok ∧ ∀ m H', Same H H' → m ∈ rnd B.ls B.due → (∀ y ∈ rnd B.ls B.due, m ≤ y) → Q (.int m) H'
def sp_most_free (C : Addr) : Sp := fun vs H Q _ => ∃ (p : Addr) (B : Bk), vs = [.ref p] ∧ BookAt C H p B ∧ B.Ok ∧ ∀ m H', Same H H' → m ∈ rnd B.ls B.due → (∀ y ∈ rnd B.ls B.due, y ≤ m) → Q (.int m) H'
def sp_counted (C : Addr) : Sp := fun vs H Q _ => ∃ (p : Addr) (B : Bk), vs = [.ref p] ∧ BookAt C H p B ∧ B.Ok ∧ ∀ (t : Addr) (ns : List Int) (H' : Hp), H t = none → Same H H' → ns.Perm (rnd B.ls B.due) → ns.Pairwise (· ≤ ·) → H' t = some (.dK (encT (tally ns))) → Q (.ref t) H'
theorem r_dnewKT {σ : L2.St} {H : Hp} {Q : VK} (q : ∀ p H', H p = none → Same H H' → H' p = some (.dK (encT (tally []))) → Q (.ref p) H') : tDNewK σ H Q := fun p hp => q p _ hp (Same.new hp) upd_same
theorem tally_len_le : ∀ xs : List Int, (tally xs).length ≤ xs.length := fun xs => by
  have h := List.Nodup.length_le_of_subset (tally_nd xs) (l₂ := xs) fun z hz => (tally_mem xs z).mp hz
  rwa [List.length_map] at h
theorem rnd_len {ls : List Int} (ok : LsOk ls) (u : Int) : 2 ≤ (rnd ls u).length ∧ (rnd ls u).length ≤ 124 := by
  have := ok.sum
  unfold rnd
  rw [rndL_len]
  omega
section
variable {P : Program} {w : World} {K : PySem.W.Frag} {mg : Str → Option Value} {base : Heap}
theorem ok_days_at {f C : Addr} {fd : FuncData} (T : Tx K mg) (F : FnP K "days_at" s_days_at f fd) (mt_Book_month_at : Dm P w K mg base CX0 1 C "month_at" (sp_month_at C)) (mt_Book_due_at : Dm P w K mg base CX0 2 C "due_at" (sp_due_at C)) :
    FnOk P w K mg base CX0 3 f fd ["book", "day"] (sp_days_at C) := by
  have sc : FnScope ["book", "day"] ["book", "day"] (defScope s_days_at) := ⟨rfl, rfl, rfl, by decide +kernel, rfl, by decide +kernel, by decide +kernel⟩
  refine F.ok sc (by rintro vs H Q E ⟨_, _, _, rfl, _⟩; rfl) (fun cdv A outer s H vs Q E hr h => ⟨_, PSs.nox ((pss_one (ps_ret (pe_op op_sub (pe_mt mt_Book_due_at (hr.mono (by decide)) pass0 (pv 0) (pa_cons (pe_mt mt_Book_month_at (hr.mono (by decide)) pass0 (pv 0) (pa_cons (pv 1) pa_nil)) pa_nil)) (pv 1))))), ?_⟩)
  obtain ⟨p, B, d, rfl, hB, ok, k⟩ := h
  obtain ⟨dx, tl, kd, lv, kvs, hI⟩ := id hB
  walk_at "rd"
  refine r_kMeth hI.i rfl ?_
  walk_at "rd"
  refine r_kMeth hI.i rfl ?_
  walk_at "rd"
  refine ⟨p, B, d, rfl, hB, ok, ?_⟩
  walk_at "rd"
  refine ⟨p, B, _, rfl, hB, ok, fun H1 e1 => ?_⟩
  walk_at "rd"
  exact k H1 e1
theorem ok_round_of {f C : Addr} {fd : FuncData} (T : Tx K mg) (F : FnP K "round_of" s_round_of f fd) (m_lengths : Dpr P w K mg base CX0 1 C "lengths" (sp_g_lengths C)) (d_days_at : Dn P w K mg base CX0 3 "days_at" ["book", "day"] (sp_days_at C)) :
    FnOk P w K mg base CX0 4 f fd ["book"] (sp_round_of C) := by
  have sc : FnScope ["book", "day"] ["book"] (defScope s_round_of) := ⟨rfl, rfl, rfl, by decide +kernel, rfl, by decide +kernel, by decide +kernel⟩
  refine F.ok sc (by rintro vs H Q E ⟨_, _, rfl, _⟩; rfl) (fun cdv A outer s H vs Q E hr h => ⟨_, PSs.nox ((pss_one (ps_ret (pe_lc (own := [("day", 1)]) (by rfl) sc.nd (pi_range1 (by rfl) T.b_range (pa_cons (pe_callB (c_sumT (K := K) rfl rfl) (by rfl) T.b_sum (by decide +kernel) (pa_cons (pe_propA m_lengths (pv 0) (hr.mono (by decide)) pass0) pa_nil)) pa_nil)) (blkOk_by (own := [("day", 1)]) (N := ["book", "day"]) (sc := defScope s_round_of) (by decide +kernel)) (fun _ _ _ _ _ => (pg_name (i := 1) sc.nd rfl (by first | exact Or.inl rfl | exact Or.inr rfl))) (fun _ _ _ _ _ => pts_nil) (fun _ _ _ _ _ => (pe_fn d_days_at (hr.mono (by decide)) pass0 (pa_cons (pv 0) (pa_cons (pv 1) pa_nil)))))))), ?_⟩)
  obtain ⟨p, B, rfl, hB, ok, k⟩ := h
  obtain ⟨dx, tl, kd, lv, kvs, hI⟩ := id hB
  have hs := ok.ls.sum
  walk_at "rd"
  refine r_kProp hI.i ?_
  refine ⟨p, B, rfl, hB, fun tl htl => ?_⟩
  walk_at "rd"
  refine r_sumT (SqT.of htl) ?_
  walk_at "rd"
  refine r_kLcR1 (fun Da i H' => Same H H' ∧ H' Da = some (.lst ((rndL B.ls B.due i).map V.int))) (by omega) (fun Da H' nD e h => ⟨e, h⟩) ?_ (fun Da H' nD h => k Da H' nD h.1 h.2)
  rintro Da i H' nD hi ⟨e, h⟩
  walk_at "rd"
  refine ⟨p, B, (i : Int), rfl, hB.keep e, ok, fun H2 e2 => ?_⟩
  walk_at "rd"
  refine r_kLcE (e2 _ _ h) (by rw [List.length_map, rndL_len]; omega) fun H3 b3 h3 => ?_
  refine ⟨Same.mut (e.trans e2) b3 nD, ?_⟩
  rw [rndL_succ, List.map_append]
  exact h3
end
end Wp
set_option Elab.async false
set_option linter.all false
set_option maxRecDepth 100000
set_option maxHeartbeats 4000000
/-! Values that are None or a number. -/
namespace Wp
open PySem PySem.Spec PyProof.Rows L2
abbrev oV : Option Int → V
  | none => .non
  | some x => .int x
abbrev nV : Option Nat → V
  | none => .non
  | some n => .int (n : Int)
section
variable {H : Hp} {Q : VK}
theorem r_neO {o : Option Int} (q : Q (.bl false) H) : rNe (oV o) (oV o) H Q := by
  refine ⟨by cases o <;> rfl, ?_⟩
  rw [decide_eq_true rfl]
  exact q
theorem r_eqO {o : Option Int} (q : Q (.bl true) H) : rEq (oV o) (oV o) H Q := by
  refine ⟨by cases o <;> rfl, ?_⟩
  rw [decide_eq_true rfl]
  exact q
end
def keep1 {α : Type} (l : List α) : List α := l
theorem keep1_rel {vs : List V} {us : List Value} (r : Vals vs us) : Vals (keep1 vs) (keep1 us) := r
def dO : Option Int → PyData
  | none => .none
  | some x => .int x
section
variable {K : PySem.W.Frag} {H : Hp} {o : Option Int} {Q : VK}
theorem dpO : Dp K H (oV o) (dO o) := by
  cases o with
  | none => exact .non
  | some x => exact .int x
theorem smO (h : ∀ x, o = some x → 1 ≤ x ∧ x ≤ 1000000000) : smI (dO o) = true := by
  cases o with
  | none => rfl
  | some x =>
    have := h x rfl
    simp only [dO, smI, decide_eq_true_eq]
    exact Nat.lt_of_le_of_lt (show x.natAbs ≤ 1000000000 by omega) (by decide)
theorem depO : (dO o).depth ≤ 60 := by
  cases o <;> simp [dO, PyData.depth]
theorem wzO : wz (dO o) ≤ 16777216 := by
  cases o <;> simp [dO, wz]
/-- repr of great numbers -/
theorem r_reprB (h : ∀ x, o = some x → x.natAbs < 10 ^ 400) (q : Q (.str (dO o).shown) H) : rRepr K [oV o] H Q := by
  refine ⟨oV o, dO o, rfl, dpO, ?_, depO, ?_, by cases o <;> rfl, q⟩
  · cases o with
    | none => rfl
    | some x =>
      have e := h x rfl
      simp only [dO, PyData.showable, decide_eq_true_eq]
      by_cases h0 : x.natAbs = 0
      · rw [h0]
        decide
      · exact (Nat.log2_lt h0).mpr (Nat.lt_of_lt_of_le e (by decide +kernel))
  · cases o with
    | none => exact Nat.le_trans (shown_wz (dO none) rfl) (Nat.le_trans (wzO (o := none)) (by rw [sizeLine_eq]; decide))
    | some x =>
      have e := int_text_length_le10 (k := 400) (by decide) (h x rfl)
      simp only [dO, PyData.shown]
      rw [PySem.ofString_length, sizeLine_eq]
      exact Nat.le_trans e (by decide)
end
end Wp
set_option Elab.async false
set_option linter.all false
set_option maxRecDepth 100000
set_option maxHeartbeats 4000000
/-! Promises, plain; values that may be promises. -/
namespace Wp
open PySem PySem.Spec PyProof.Rows L2
def lateL (ls : List Int) (u n : Int) (k : Nat) : List Int := ((List.range k).filter fun i : Nat => decide (fdL ls u (i : Int) < n)).map fun i : Nat => (i : Int)
def brkO (ls : List Int) (u : Int) (s : Str) (n : Int) : Option Int :=
  if (decide (lateL ls u n ls.sum.toNat = []) || (decide (s = "some") && decide (((lateL ls u n ls.sum.toNat).length : Int) < ls.sum))) = true then none else (lateL ls u n ls.sum.toNat).head?
theorem lateL_snoc (ls : List Int) (u n : Int) (k : Nat) : lateL ls u n (k + 1) = lateL ls u n k ++ (if fdL ls u (k : Int) < n then [(k : Int)] else []) := by
  unfold lateL
  rw [List.range_succ, List.filter_append, List.map_append]
  congr 1
  by_cases h : fdL ls u (k : Int) < n
  · rw [if_pos h, List.filter_cons_of_pos (by simpa using h)]
    rfl
  · rw [if_neg h, List.filter_cons_of_neg (by simpa using h)]
    rfl
theorem lateL_len (ls : List Int) (u n : Int) (k : Nat) : (lateL ls u n k).length ≤ k := by
  unfold lateL
  rw [List.length_map]
  have := List.length_filter_le (fun i : Nat => decide (fdL ls u (i : Int) < n)) (List.range k)
  rwa [List.length_range] at this
theorem lateL_mem {ls : List Int} {u n : Int} {k : Nat} {x : Int} (h : x ∈ lateL ls u n k) : 0 ≤ x ∧ x < k := by
  unfold lateL at h
  obtain ⟨i, hi, rfl⟩ := List.mem_map.mp h
  have := List.mem_range.mp (List.mem_filter.mp hi).1
  omega
theorem brkO_small {ls : List Int} {u n : Int} {s : Str} (h : ls.sum ≤ 124) : ∀ x, brkO ls u s n = some x → 0 ≤ x ∧ x ≤ 124 := fun x hx => by
  unfold brkO at hx
  split at hx
  · cases hx
  · have := lateL_mem (List.mem_of_mem_head? hx)
    omega
/-! the next day -/
theorem fdL_period {ls : List Int} (ok : LsOk ls) (u d : Int) : fdL ls u (d + ls.sum) = fdL ls u d := by
  have h1 := ok.l1
  have hs := ok.sum
  have e1 : monthL ls (d + ls.sum) = monthL ls d + (ls.length : Int) := by
    unfold monthL
    rw [show d + ls.sum = d + 1 * ls.sum by omega, Int.add_mul_ediv_right _ _ (by omega), Int.add_mul_emod_self_right, Int.add_mul]
    omega
  unfold fdL
  rw [e1]
  have e2 : firstL ls (monthL ls d + (ls.length : Int) + 1) = firstL ls (monthL ls d + 1) + ls.sum := by
    unfold firstL
    rw [show monthL ls d + (ls.length : Int) + 1 = (monthL ls d + 1) + 1 * (ls.length : Int) by omega, Int.add_mul_ediv_right _ _ (by omega), Int.add_mul_emod_self_right, Int.add_mul]
    omega
  rw [e2]
  omega
/-- the first of n days from d that can stand long enough -/
def nextO (ls : List Int) (u m d : Int) (n : Nat) : Option Int := ((List.range n).map fun i : Nat => d + (i : Int)).find? fun x => decide (m ≤ fdL ls u x)
theorem nextO_snoc (ls : List Int) (u m d : Int) (n : Nat) : nextO ls u m d (n + 1) = (nextO ls u m d n).or (if m ≤ fdL ls u (d + (n : Int)) then some (d + (n : Int)) else none) := by
  unfold nextO
  rw [List.range_succ, List.map_append, List.find?_append]
  congr 1
  by_cases h : m ≤ fdL ls u (d + (n : Int))
  · simp [h]
  · simp [h]
theorem nextO_none {ls : List Int} {u m d : Int} {n : Nat} (h : nextO ls u m d n = none) {i : Nat} (hi : i < n) : ¬ m ≤ fdL ls u (d + (i : Int)) := fun g => by
  unfold nextO at h
  have := List.find?_eq_none.mp h (d + (i : Int)) (List.mem_map.mpr ⟨i, List.mem_range.mpr hi, rfl⟩)
  simp [g] at this
/-- a round is enough -/
theorem nextO_round {ls : List Int} (ok : LsOk ls) (u m d : Int) : ∀ k : Nat, nextO ls u m d (ls.sum.toNat + k) = nextO ls u m d ls.sum.toNat
  | 0 => rfl
  | k + 1 => by
    have hs := ok.sum
    have h1 := ok.l1
    rw [← Nat.add_assoc, nextO_snoc, nextO_round ok u m d k]
    cases h : nextO ls u m d ls.sum.toNat with
    | some x => rfl
    | none =>
      have hk := nextO_round ok u m d k
      rw [h] at hk
      have hg := nextO_none hk (i := k) (by omega)
      rw [show d + ((ls.sum.toNat + k : Nat) : Int) = d + (k : Int) + ls.sum by omega, fdL_period ok, if_neg hg]
      rfl
theorem nextO_at {ls : List Int} {u m d : Int} {n N : Nat} (h : nextO ls u m d n = none) (hn : n < N) (g : m ≤ fdL ls u (d + (n : Int))) : nextO ls u m d N = some (d + (n : Int)) := by
  have h1 : nextO ls u m d (n + 1) = some (d + (n : Int)) := by rw [nextO_snoc, h, if_pos g]; rfl
  obtain ⟨k, rfl⟩ : ∃ k, N = n + 1 + k := ⟨N - (n + 1), by omega⟩
  induction k with
  | zero => exact h1
  | succ k ih =>
    rw [← Nat.add_assoc, nextO_snoc, ih (by omega)]
    rfl
/-- all the days that can stand, from d on -/
def goodL (ls : List Int) (u m d : Int) (n : Nat) : List Int := ((List.range n).map fun i : Nat => d + (i : Int)).filter fun x => decide (m ≤ fdL ls u x)
theorem goodL_snoc (ls : List Int) (u m d : Int) (n : Nat) : goodL ls u m d (n + 1) = goodL ls u m d n ++ (if m ≤ fdL ls u (d + (n : Int)) then [d + (n : Int)] else []) := by
  unfold goodL
  rw [List.range_succ, List.map_append, List.filter_append]
  congr 1
  by_cases h : m ≤ fdL ls u (d + (n : Int))
  · simp [h]
  · simp [h]
theorem goodL_head (ls : List Int) (u m d : Int) (n : Nat) : (goodL ls u m d n).head? = nextO ls u m d n := by
  unfold goodL nextO
  rw [List.head?_filter]
theorem goodL_len (ls : List Int) (u m d : Int) (n : Nat) : (goodL ls u m d n).length ≤ n := by
  unfold goodL
  have := List.length_filter_le (fun x => decide (m ≤ fdL ls u x)) ((List.range n).map fun i : Nat => d + (i : Int))
  rwa [List.length_map, List.length_range] at this
theorem nextO_small {ls : List Int} {u m d : Int} {n : Nat} (h0 : 0 ≤ d) (h1 : d ≤ 2000) (hn : n ≤ 200) : ∀ x, nextO ls u m d n = some x → 0 ≤ x ∧ x ≤ 2200 := fun x hx => by
  unfold nextO at hx
  obtain ⟨i, hi, rfl⟩ := List.mem_map.mp (List.mem_of_find?_eq_some hx)
  have := List.mem_range.mp hi
  omega
/-! promises of any shape -/
def vowB (s : Str) (o : Option Int) : Bool := decide (s ∈ (["each", "some"] : List Str)) && inB o 0 100
inductive Vw (K : PySem.W.Frag) (H : Hp) : V → Bool → Prop
  | ty {v : V} {a : String} : TyX K H v (.type a) → kitB a "tuple" = some false → Vw K H v false
  | len {p : Addr} {xs : List V} : H p = some (.tup xs) → xs.length ≠ 2 → xs.length ≤ 1000 → Vw K H (.ref p) false
  | fst {p : Addr} {x y : V} {a : String} : H p = some (.tup [x, y]) → TyX K H x (.type a) → kitB a "str" = some false → Vw K H (.ref p) false
  | two {p : Addr} {s : Str} {y : V} {o : Option Int} : H p = some (.tup [.str s, y]) → NumV K H y o → Vw K H (.ref p) (vowB s o)
theorem TyOf.same {K : PySem.W.Frag} {H H' : Hp} (e : Same H H') {v : V} {t : Value} (h : TyOf K H v t) : TyOf K H' v t := by
  cases h with
  | non => exact .non
  | bl x => exact .bl x
  | int i => exact .int i
  | str x => exact .str x
  | flt x => exact .flt x
  | lst h => exact .lst (e _ _ h)
  | frz h => exact .frz (e _ _ h)
  | tup h => exact .tup (e _ _ h)
  | dK h => exact .dK (e _ _ h)
  | dT h => exact .dT (e _ _ h)
  | ins h a b c d f => exact .ins (e _ _ h) a b c d f
theorem TyX.same {K : PySem.W.Frag} {H H' : Hp} (e : Same H H') {v : V} {t : Value} (h : TyX K H v t) : TyX K H' v t := by
  cases h with
  | base h => exact .base (TyOf.same e h)
  | byt b => exact .byt b
  | set h => exact .set (e _ _ h)
  | kList a b => exact .kList a b
  | kTuple a b => exact .kTuple a b
  | kDict a b => exact .kDict a b
  | fTuple h => exact .fTuple (e _ _ h)
  | fDict h => exact .fDict (e _ _ h)
theorem NumV.same {K : PySem.W.Frag} {H H' : Hp} (e : Same H H') {v : V} {o : Option Int} (h : NumV K H v o) : NumV K H' v o := by
  cases h with
  | int i => exact .int i
  | no h a b c => exact .no (TyX.same e h) a b c
/-- a value of any shape that can be drawn -/
inductive Sh (st l : Addr) (H : Hp) : V → Prop
  | non : Sh st l H .non
  | bl (b : Bool) : Sh st l H (.bl b)
  | int (i : Int) : Sh st l H (.int i)
  | str (z : Str) : Sh st l H (.str z)
  | tup {p : Addr} {xs : List V} : p ≠ st → p ≠ l → H p = some (.tup xs) → xs.length ≤ 1000 → (∀ x ∈ xs, Sh st l H x) → Sh st l H (.ref p)
  | lst {p : Addr} {xs : List V} : p ≠ st → p ≠ l → H p = some (.lst xs) → Sh st l H (.ref p)
  | dK {p : Addr} {kvs : List (Key × V)} : p ≠ st → p ≠ l → H p = some (.dK kvs) → Sh st l H (.ref p)
theorem Sh.kp {st l : Addr} {H H' : Hp} (k : Kp st l H H') {v : V} (h : Sh st l H v) : Sh st l H' v := by
  induction h with
  | non => exact .non
  | bl b => exact .bl b
  | int i => exact .int i
  | str z => exact .str z
  | tup n1 n2 h hl _ ih => exact .tup n1 n2 (k _ _ h n1 n2) hl ih
  | lst n1 n2 h => exact .lst n1 n2 (k _ _ h n1 n2)
  | dK n1 n2 h => exact .dK n1 n2 (k _ _ h n1 n2)
section
variable {K : PySem.W.Frag} {st l : Addr} {H : Hp} {v : V}
theorem Sh.cls (h : Sh st l H v) : (∃ z, v = .str z) ∨ ∃ a, TyX K H v (.type a) ∧ kitB a "str" = some false := by
  cases h with
  | non => exact .inr ⟨_, .base .non, by decide +kernel⟩
  | bl b => exact .inr ⟨_, .base (.bl b), by decide +kernel⟩
  | int i => exact .inr ⟨_, .base (.int i), by decide +kernel⟩
  | str z => exact .inl ⟨z, rfl⟩
  | tup _ _ h => exact .inr ⟨_, .base (.tup h), by decide +kernel⟩
  | lst _ _ h => exact .inr ⟨_, .base (.lst h), by decide +kernel⟩
  | dK _ _ h => exact .inr ⟨_, .base (.dK h), by decide +kernel⟩
theorem Sh.num (h : Sh st l H v) : ∃ o, NumV K H v o := by
  cases h with
  | non => exact ⟨_, .no (b1 := false) (b2 := false) (.base .non) (kit_ty (by decide +kernel)) (kit_ty (by decide +kernel)) rfl⟩
  | bl b => exact ⟨_, .no (b1 := true) (b2 := true) (.base (.bl b)) (kit_ty (by decide +kernel)) (kit_ty (by decide +kernel)) rfl⟩
  | int i => exact ⟨_, .int i⟩
  | str z => exact ⟨_, .no (b1 := false) (b2 := false) (.base (.str z)) (kit_ty (by decide +kernel)) (kit_ty (by decide +kernel)) rfl⟩
  | tup _ _ h => exact ⟨_, .no (b1 := false) (b2 := false) (.base (.tup h)) (kit_ty (by decide +kernel)) (kit_ty (by decide +kernel)) rfl⟩
  | lst _ _ h => exact ⟨_, .no (b1 := false) (b2 := false) (.base (.lst h)) (kit_ty (by decide +kernel)) (kit_ty (by decide +kernel)) rfl⟩
  | dK _ _ h => exact ⟨_, .no (b1 := false) (b2 := false) (.base (.dK h)) (kit_ty (by decide +kernel)) (kit_ty (by decide +kernel)) rfl⟩
theorem Sh.vw (h : Sh st l H v) : ∃ b, Vw K H v b := by
  cases h with
  | non => exact ⟨_, .ty (.base .non) (by decide +kernel)⟩
  | bl b => exact ⟨_, .ty (.base (.bl b)) (by decide +kernel)⟩
  | int i => exact ⟨_, .ty (.base (.int i)) (by decide +kernel)⟩
  | str z => exact ⟨_, .ty (.base (.str z)) (by decide +kernel)⟩
  | lst _ _ h => exact ⟨_, .ty (.base (.lst h)) (by decide +kernel)⟩
  | dK _ _ h => exact ⟨_, .ty (.base (.dK h)) (by decide +kernel)⟩
  | @tup p xs _ _ h hl hx =>
    match xs, h, hl, hx with
    | [], h, hl, _ => exact ⟨_, .len h (by decide) hl⟩
    | [_], h, hl, _ => exact ⟨_, .len h (by simp) hl⟩
    | [x, y], h, _, hx =>
      rcases (hx x (List.mem_cons_self ..)).cls (K := K) with ⟨z, rfl⟩ | ⟨a, h1, h2⟩
      · obtain ⟨o, ho⟩ := (hx y (by simp)).num (K := K)
        exact ⟨_, .two h ho⟩
      · exact ⟨_, .fst h h1 h2⟩
    | _ :: _ :: _ :: _, h, hl, _ => exact ⟨_, .len h (by simp) hl⟩
end
section
variable {K : PySem.W.Frag} {H : Hp} {p : Addr} {Q : VK}
theorem sm_dO {o : Option Int} (h : ∀ x, o = some x → x.natAbs < 10 ^ 60) : smI (dO o) = true := by
  cases o with
  | none => rfl
  | some x => exact decide_eq_true (h x rfl)
theorem r_reprOO {o : Option Int} (h : SqL K H p [oV o, oV o]) (hz : ∀ x, o = some x → x.natAbs < 10 ^ 60) (k : Q (.str (PyData.list [dO o, dO o]).shown) H) : rRepr K [.ref p] H Q := by
  refine r_repr (d := .list [dO o, dO o]) (.lst h (.cons dpO (.cons dpO .nil))) ?_ ?_ ?_ k
  · show smAll [dO o, dO o] = true
    rw [smAll_cons, smAll_cons, sm_dO hz]
    simp [smAll]
  · cases o <;> simp [dO, PyData.depth, PyData.depthAll]
  · cases o <;> simp [dO, wz, wzAll]
theorem r_reprBB {b : Bool} (h : SqL K H p [.bl b, .bl b]) (k : Q (.str (PyData.list [.bool b, .bool b]).shown) H) : rRepr K [.ref p] H Q := by
  refine r_repr (d := .list [.bool b, .bool b]) (.lst h (.cons (.bl b) (.cons (.bl b) .nil))) ?_ ?_ ?_ k
  · simp [smI, smAll_cons, smAll]
  · simp [PyData.depth, PyData.depthAll]
  · simp [wz, wzAll]
end
def rot3 {α : Type} : List α → List α
  | [a, b, c] => [b, c, a]
  | l => l
theorem rot3_rel {vs : List V} {us : List Value} (r : Vals vs us) : Vals (rot3 vs) (rot3 us) := by
  match vs, us, r with
  | [], _, .nil => exact .nil
  | [_], _, .cons a .nil => exact .cons a .nil
  | [_, _], _, .cons a (.cons b .nil) => exact .cons a (.cons b .nil)
  | [_, _, _], _, .cons a (.cons b (.cons c .nil)) => exact .cons b (.cons c (.cons a .nil))
  | _ :: _ :: _ :: _ :: _, _, .cons a (.cons b (.cons c (.cons d e))) => exact .cons a (.cons b (.cons c (.cons d e)))
end Wp
set_option Elab.async false
set_option linter.all false
set_option maxRecDepth 100000
set_option maxHeartbeats 4000000
/-! list(range(a, b, c)) -/
namespace Wp
open PySem PySem.Spec PyProof.Rows L2
def rg3 (i c : Int) (n : Nat) : List V := (List.range n).map fun k : Nat => V.int (i + (k : Int) * c)
def kRg3 (Q : VK) : List V → Hp → Prop := fun vs H1 => ∃ (i j c : Int) (n : Nat), vs = [.int i, .int j, .int c] ∧ RgC i j c n ∧ n ≤ 1000000 ∧ ∀ q, H1 q = none → Q (.ref q) (upd H1 q (.lst (rg3 i c n)))
def tRg3 (ta : TA) : TE := fun σ H Q => ta σ H (kRg3 Q)
section
variable {X : Cx} {a b c : Expr} {ta : TA} {p p2 pos pos2 : Pos}
theorem vals_rg3 {i k : Int} {n : Nat} {acc : Array Value} (h : ItemsOf (fun j v => ∃ t, v = .int (i + j * k) t) acc n) : Vals (rg3 i k n) acc.toList := by
  have el : acc.toList.length = n := by
    rw [Array.length_toList]
    exact h.1
  unfold rg3
  rw [← el]
  refine vals_of_get acc.toList _ fun j u hj => ?_
  obtain ⟨t, rfl⟩ := h.2 j u (by rw [← hj, Array.getElem?_toList])
  exact ⟨t, rfl⟩
theorem pe_listRg3 (hc : X.calm = true) (hl : Gl X "list") (ml : X.mg "list" = none) (hr : Gl X "range") (mr : X.mg "range" = none) (ha : PA X [a, b, c] ta)
    (hs : starEach [a, b, c] X.env = (false, eval a X.env) :: starEach [b, c] X.env := by rfl) (hpl : (backTo pos2 (starEach [b, c] X.env)).any (·.1) = false := by rfl)
    (na : starEach [.Call (.Name "range" p2) [a, b, c] [] pos2] X.env = (false, eval (.Call (.Name "range" p2) [a, b, c] [] pos2) X.env) :: starEach [] X.env := by rfl) :
    PE X (.Call (.Name "list" p) [.Call (.Name "range" p2) [a, b, c] [] pos2] [] pos) (tRg3 ta) := by
  refine ⟨fun pins s σ H Q I h => ?_⟩
  have inner : wpAny (model X.prog X.w) X.A (eval (.Call (.Name "range" p2) [a, b, c] [] pos2) X.env)
      (fun x s' => ∃ (r : Addr) (i j k : Int) (n : Nat) (t u v : Tok) (H' : Hp), x = .ref r ∧ IsRange s'.heap r i j k t u v ∧ Inv X pins σ H' s' ∧ RgC i j k n ∧ n ≤ 1000000 ∧ ∀ q, H' q = none → Q (.ref q) (upd H' q (.lst (rg3 i k n)))) X.xe s := by
    refine Call_ (ld_blt I hr mr boot_range (PyProof.Rows.callWith_type1 (thn (ha.run pos2 pins s σ H _ I h) ?_) hs hpl))
    rintro us s1 ⟨vs, H1, I1, r1, i, j, k, n, e, rg, hn, q⟩
    subst e
    obtain ⟨c0, c1, c2, c3⟩ := id rg
    match us, r1 with
    | _, .cons r (.cons r' (.cons r'' .nil)) =>
      obtain ⟨t, rfl⟩ := r
      obtain ⟨t', rfl⟩ := r'
      obtain ⟨t'', rfl⟩ := r''
      exact call_range_3 c0 ⟨_, i, j, k, n, t, t', t'', H1, rfl, IsRange.new .., I1.kept fun b o z => Heap.get?_push_of_some _ z, rg, hn, q⟩ (.inl (PyProof.noPylong_small c1))
  refine Call_ (ld_blt I hl ml boot_list (PyProof.Rows.callWith_type1 (args_cons (thn inner ?_) na) na))
  rintro x s1 ⟨r, i, j, k, n, t, u, v, H1, rfl, hr1, I1, ⟨c0, c1, c2, c3⟩, hn, q⟩
  refine args_nil ?_
  refine call_list_range (n := n) (I1.ok.hd hc) hr1 c2 c3 (by omega) fun h' tk acc cap kp hobj items => ?_
  refine ⟨.ref s1.heap.objs.size, upd H1 s1.heap.objs.size (.lst (rg3 i k n)), I1.laid kp (Nat.le_refl _) ?_, rfl, q _ (I1.hok.fresh (Nat.le_refl _))⟩
  refine ⟨?_, acc.toList, cap, vals_rg3 items, ?_⟩
  · unfold rg3
    rw [List.length_map, List.length_range]
    exact sz5 hn
  · rw [Array.toArray_toList]
    exact hobj
theorem r_rg3 {σ : L2.St} {H : Hp} {Q : VK} (q : ta σ H (kRg3 Q)) : tRg3 ta σ H Q := q
theorem r_kRg3 {H : Hp} {Q : VK} {i j c : Int} {n : Nat} (h : RgC i j c n) (hn : n ≤ 1000000) (q : ∀ p H', H p = none → Same H H' → H' p = some (.lst (rg3 i c n)) → Q (.ref p) H') : kRg3 Q [.int i, .int j, .int c] H :=
  ⟨i, j, c, n, rfl, h, hn, fun p hp => q p _ hp (Same.new hp) upd_same⟩
end
/-- downward by d -/
theorem rgc_down {x d : Int} (h0 : 0 ≤ x) (h1 : x ≤ 1000000) (hd : 1 ≤ d) (hd2 : d ≤ 1000000) : RgC x 0 (0 - d) ((x + d - 1) / d).toNat := by
  have hs : Builtin.Range.rangeSize x 0 (0 - d) = (x + d - 1) / d := by
    unfold Builtin.Range.rangeSize
    rw [if_neg (by omega)]
    by_cases hx : x > 0
    · rw [if_pos hx]
      have e : -(0 - d) = d := by omega
      rw [e]
      have e2 : x + d - 1 = (x - 0 - 1) + 1 * d := by omega
      rw [e2, Int.add_mul_ediv_right _ _ (by omega)]
    · have hx0 : x = 0 := by omega
      subst hx0
      rw [if_neg (by omega), Int.ediv_eq_zero_of_lt (by omega) (by omega)]
  have hq0 : 0 ≤ (x + d - 1) / d := Int.ediv_nonneg (by omega) (by omega)
  refine ⟨by omega, by omega, ?_, by rw [hs]; omega⟩
  have hq1 : (x + d - 1) / d ≤ x + d - 1 := Int.ediv_le_self _ (by omega)
  unfold Builtin.Range.small
  rw [hs, if_neg (by omega)]
  simp only [Builtin.Range.rangeFitsLong, Bool.and_eq_true, Bool.or_eq_true, decide_eq_true_eq]
  refine ⟨⟨⟨⟨⟨?_, ?_⟩, ?_, ?_⟩, ?_, ?_⟩, ?_, ?_⟩, Or.inr ⟨?_, ?_⟩⟩ <;> omega
end Wp
set_option Elab.async false
set_option linter.all false
set_option maxRecDepth 100000
set_option maxHeartbeats 4000000
/-! Lists of tuples, whatever stands in them; sorted of them. -/
namespace Wp
open PySem PySem.Spec PyProof.Rows L2
inductive TL {β : Type} (enc : β → List V) (H : Hp) : List V → List β → Prop
  | nil : TL enc H [] []
  | cons {t : Addr} {b : β} {vs : List V} {bs : List β} : H t = some (.tup (enc b)) → TL enc H vs bs → TL enc H (.ref t :: vs) (b :: bs)
section
variable {β : Type} {enc : β → List V} {H H' : Hp} {vs us : List V} {bs cs : List β}
theorem TL.keep (h : TL enc H vs bs) (e : ∀ t xs, H t = some (.tup xs) → H' t = some (.tup xs)) : TL enc H' vs bs := by
  induction h with
  | nil => exact .nil
  | cons h _ ih => exact .cons (e _ _ h) ih
theorem TL.same (h : TL enc H vs bs) (e : Same H H') : TL enc H' vs bs := h.keep fun _ _ q => e _ _ q
theorem TL.len (h : TL enc H vs bs) : vs.length = bs.length := by
  induction h with
  | nil => rfl
  | cons _ _ ih => simp [ih]
theorem TL.app (h : TL enc H vs bs) (h2 : TL enc H us cs) : TL enc H (vs ++ us) (bs ++ cs) := by
  induction h with
  | nil => exact h2
  | cons h _ ih => exact .cons h ih
theorem TL.snoc {t : Addr} {b : β} (h : TL enc H vs bs) (ht : H t = some (.tup (enc b))) : TL enc H (vs ++ [.ref t]) (bs ++ [b]) := h.app (.cons ht .nil)
theorem TL.get (h : TL enc H vs bs) : ∀ {i : Nat} {x : V}, vs[i]? = some x → ∃ t b, x = .ref t ∧ bs[i]? = some b ∧ H t = some (.tup (enc b)) := by
  induction h with
  | nil => intro i x e; simp at e
  | @cons t b vs bs h _ ih =>
    intro i x e
    cases i with
    | zero => exact ⟨t, b, (Option.some.inj e).symm, rfl, h⟩
    | succ i =>
      obtain ⟨t', r', h1, h2, h3⟩ := ih (i := i) (by simpa using e)
      exact ⟨t', r', h1, by simpa using h2, h3⟩
theorem TL.at (h : TL enc H vs bs) {i : Nat} {b : β} (hb : bs[i]? = some b) : ∃ t, vs[i]? = some (.ref t) ∧ H t = some (.tup (enc b)) := by
  have hl := h.len
  have hi := (List.getElem?_eq_some_iff.mp hb).1
  obtain ⟨x, hx⟩ : ∃ x, vs[i]? = some x := ⟨vs[i]'(by omega), List.getElem?_eq_getElem (by omega)⟩
  obtain ⟨t, r', rfl, h2, h3⟩ := h.get hx
  rw [hb] at h2
  obtain rfl := Option.some.inj h2
  exact ⟨t, hx, h3⟩
theorem TL.zip (h : TL enc H vs bs) : ∃ zs : List (V × β), vs = zs.map (·.1) ∧ bs = zs.map (·.2) ∧ ∀ z ∈ zs, ∃ t, z.1 = .ref t ∧ H t = some (.tup (enc z.2)) := by
  induction h with
  | nil => exact ⟨[], rfl, rfl, fun z h => by cases h⟩
  | @cons t b vs bs h _ ih =>
    obtain ⟨zs, h1, h2, h3⟩ := ih
    refine ⟨(.ref t, b) :: zs, by rw [h1]; rfl, by rw [h2]; rfl, fun z hz => ?_⟩
    rcases List.mem_cons.mp hz with rfl | hz
    · exact ⟨t, rfl, h⟩
    · exact h3 z hz
theorem TL.of : ∀ {zs : List (V × β)}, (∀ z ∈ zs, ∃ t, z.1 = .ref t ∧ H t = some (.tup (enc z.2))) → TL enc H (zs.map (·.1)) (zs.map (·.2))
  | [], _ => .nil
  | (v, b) :: zs, h => by
    obtain ⟨t, e, ht⟩ := h _ (List.mem_cons_self ..)
    have e : v = .ref t := e
    subst e
    exact .cons ht (TL.of fun z hz => h z (List.mem_cons_of_mem _ hz))
end
/-- flat values and what they are as data -/
def FlatE {β : Type} (enc : β → List V) (dat : β → List PyData) : Prop := ∀ (K : PySem.W.Frag) (H : Hp) (b : β), DpAll K H (enc b) (dat b)
def tupD {β : Type} (dat : β → List PyData) (b : β) : PyData := .tuple (dat b)
def srtG {β : Type} (dat : β → List PyData) (bs : List β) : List β := bs.mergeSort (PySem.W.dataLe false (tupD dat))
theorem srtG_perm {β : Type} (dat : β → List PyData) (bs : List β) : (srtG dat bs).Perm bs := List.mergeSort_perm _ _
theorem srtG_len {β : Type} (dat : β → List PyData) (bs : List β) : (srtG dat bs).length = bs.length := List.length_mergeSort _
section
variable {β : Type} {enc : β → List V} {dat : β → List PyData} {K : PySem.W.Frag} {H : Hp} {p : Addr} {vs : List V} {bs : List β} {Q : VK}
theorem TL.dp (f : FlatE enc dat) (h : TL enc H vs bs) : DpAll K H vs (bs.map (tupD dat)) := by
  induction h with
  | nil => exact .nil
  | cons h _ ih => exact .cons (.tup (SqT.of h) (f K H _)) ih
theorem TL.sort (h : TL enc H vs bs) : TL enc H (srtV vs (bs.map (tupD dat))) (srtG dat bs) := by
  obtain ⟨zs, rfl, rfl, h3⟩ := h.zip
  have e1 : srtV (zs.map (·.1)) ((zs.map (·.2)).map (tupD dat)) = (zs.mergeSort (PySem.W.dataLe false fun z => tupD dat z.2)).map (·.1) := by
    unfold srtV
    have e : (zs.map (·.1)).zip ((zs.map (·.2)).map (tupD dat)) = zs.map fun z => (z.1, tupD dat z.2) := by
      rw [List.map_map]
      exact zip_maps (fun z : V × β => z.1) (fun z => tupD dat z.2) zs
    rw [e, ← List.map_mergeSort (r := PySem.W.dataLe false fun z => tupD dat z.2) (f := fun z : V × β => (z.1, tupD dat z.2)) (fun a _ b _ => rfl), List.map_map]
    rfl
  have e2 : srtG dat (zs.map (·.2)) = (zs.mergeSort (PySem.W.dataLe false fun z => tupD dat z.2)).map (·.2) := by
    unfold srtG
    rw [← List.map_mergeSort (r := PySem.W.dataLe false fun z => tupD dat z.2) (f := fun z : V × β => z.2) (fun a _ b _ => rfl)]
  rw [e1, e2]
  exact TL.of fun z hz => h3 z ((List.mergeSort_perm _ _).mem_iff.mp hz)
theorem r_sortG (f : FlatE enc dat) (h : SeqV K H p vs) (hr : TL enc H vs bs) (al : PySem.W.AllAlike (bs.map (tupD dat))) (so : PySem.W.Sortable (bs.map (tupD dat))) (hd : ∀ b, (tupD dat b).depth ≤ 20) (hz : bs.length ≤ 1000000)
    (q : ∀ t H' ws, H t = none → Same H H' → H' t = some (.lst ws) → TL enc H' ws (srtG dat bs) → Q (.ref t) H') : rSortD K [.ref p] H Q :=
  ⟨p, vs, bs.map (tupD dat), rfl, h, hr.dp f, al, so, by rw [hr.len]; exact hz, fun d hm => by
    obtain ⟨b, _, rfl⟩ := List.mem_map.mp hm
    exact hd b, fun t ht => q t _ _ ht (Same.new ht) upd_same ((hr.sort (dat := dat)).keep fun u xs hu => Same.new ht _ _ hu)⟩
end
/-! pairs of texts; texts in a row; a number and a text -/
def e2 (p : Str × Str) : List V := [.str p.1, .str p.2]
def d2 (p : Str × Str) : List PyData := [.str p.1, .str p.2]
def eS (r : List Str) : List V := r.map V.str
def dS (r : List Str) : List PyData := r.map PyData.str
def eIS (p : Int × Str) : List V := [.int p.1, .str p.2]
def dIS (p : Int × Str) : List PyData := [.int p.1, .str p.2]
theorem flat2 : FlatE e2 d2 := fun _ _ _ => .cons (.str _) (.cons (.str _) .nil)
theorem flatIS : FlatE eIS dIS := fun _ _ _ => .cons (.int _) (.cons (.str _) .nil)
theorem dp_rowS {K : PySem.W.Frag} {H : Hp} : ∀ r : List Str, DpAll K H (r.map V.str) (r.map PyData.str)
  | [] => .nil
  | z :: r => .cons (.str z) (dp_rowS r)
theorem flatS : FlatE eS dS := fun _ _ r => dp_rowS r
theorem alike2 (bs : List (Str × Str)) : PySem.W.AllAlike (bs.map (tupD d2)) := PySem.W.AllAlike.of fun a b => by simp [tupD, d2, PySem.W.alike, PySem.W.alikeAll]
theorem alikeIS (bs : List (Int × Str)) : PySem.W.AllAlike (bs.map (tupD dIS)) := PySem.W.AllAlike.of fun a b => by simp [tupD, dIS, PySem.W.alike, PySem.W.alikeAll]
theorem sortable2 (bs : List (Str × Str)) : PySem.W.Sortable (bs.map (tupD d2)) := PySem.W.Sortable.tuples fun r => ⟨_, _, rfl⟩
theorem sortableIS (bs : List (Int × Str)) : PySem.W.Sortable (bs.map (tupD dIS)) := PySem.W.Sortable.tuples fun r => ⟨_, _, rfl⟩
theorem depth2 (b : Str × Str) : (tupD d2 b).depth ≤ 20 := by simp [tupD, d2, PyData.depth, PyData.depthAll]
theorem depthIS (b : Int × Str) : (tupD dIS b).depth ≤ 20 := by simp [tupD, dIS, PyData.depth, PyData.depthAll]
section
variable {K : PySem.W.Frag} {H : Hp} {p : Addr} {vs : List V} {Q : VK}
theorem r_sort2 {bs : List (Str × Str)} (h : SeqV K H p vs) (hr : TL e2 H vs bs) (hz : bs.length ≤ 1000000) (q : ∀ t H' ws, H t = none → Same H H' → H' t = some (.lst ws) → TL e2 H' ws (srtG d2 bs) → Q (.ref t) H') : rSortD K [.ref p] H Q :=
  r_sortG flat2 h hr (alike2 bs) (sortable2 bs) depth2 hz q
theorem r_sortIS {bs : List (Int × Str)} (h : SeqV K H p vs) (hr : TL eIS H vs bs) (hz : bs.length ≤ 1000000) (q : ∀ t H' ws, H t = none → Same H H' → H' t = some (.lst ws) → TL eIS H' ws (srtG dIS bs) → Q (.ref t) H') : rSortD K [.ref p] H Q :=
  r_sortG flatIS h hr (alikeIS bs) (sortableIS bs) depthIS hz q
end
end Wp
set_option Elab.async false
set_option linter.all false
set_option maxRecDepth 100000
set_option maxHeartbeats 4000000
/-! enumerate(tuple). -/
namespace Wp
open PySem PySem.Spec PyProof.Rows L2
open PySem.Sem (wp)
theorem meets_enum1 {v : Value} {o : Obj} {H : Heap → Prop} (B : Begins v o H) :
    Meets (Builtin.«enumerate.__new__» ⟨[.type "enumerate", v], []⟩) (fun _ R s => H s.heap ∧
      R (.ok (.ret (.ref (s.heap.push o).objs.size))) { s with heap := (s.heap.push o).push { cls := .type "enumerate", data := .fields #[.none, .bool false, .ref s.heap.objs.size, rawInt 0, .none, .none] } }) :=
  .of_wp fun prog w A R s h => by
    obtain ⟨hp, g, d, tk, os⟩ := s; obtain ⟨h1, h⟩ := h
    have hsub := sub_enumerate
    have q1 : ∀ {A' : Around} {E : Value → Shared → Prop} {Q : Value → Shared → Prop}, Q (.ref hp.objs.size) ⟨hp.push o, g, d, tk, os⟩ → wpAny (model prog w) A' (pyIter v) Q E ⟨hp, g, d, tk, os⟩ :=
      fun q => B.iter prog w _ _ ⟨hp, g, d, tk, os⟩ _ h1 q
    wp_walk using q1
    refine wpAny_stack_any fun st => wpAny_pure ?_
    split
    · rename_i c _ _ _ _ _
      cases (c == Value.type "enumerate")
      · wp_walk using q1
        exact ⟨_, rfl, h⟩
      · wp_walk using q1
        exact ⟨_, rfl, h⟩
    · wp_walk using q1
      exact ⟨_, rfl, h⟩
section
variable {prog : Program} {w : World} {A : Around} {E : Value → Shared → Prop} {s : Shared}
theorem enum1_begins {v : Value} {o : Obj} {H : Heap → Prop} {Q : Value → Shared → Prop} (B : Begins v o H) (h1 : H s.heap)
    (h : ∀ h', IsEnum h' (s.heap.objs.size + 1) s.heap.objs.size 0 .none → h'.get? s.heap.objs.size = some o → h'.objs.size = s.heap.objs.size + 2 →
      (∀ b o, s.heap.get? b = some o → h'.get? b = some o) → Q (.ref (s.heap.objs.size + 1)) { s with heap := h' }) :
    wpAny (model prog w) A (call (.type "enumerate") [v]) Q E s := by
  refine callType_new F.called_enumerate (by decide) (F.typeCall_enumerate_1 _) (F.newCall_enumerate_1 _) (fun obj => F.args_object_init_2 obj _) F.entry_enumerate_new (meets_enum1 B) ⟨h1, ?_⟩
  have hz : (s.heap.push o).objs.size = s.heap.objs.size + 1 := Heap.size_push ..
  show _ ∧ _
  rw [hz]
  have he : IsEnum ((s.heap.push o).push { cls := .type "enumerate", data := .fields #[.none, .bool false, .ref s.heap.objs.size, rawInt 0, .none, .none] }) (s.heap.objs.size + 1) s.heap.objs.size 0 .none := by
    have := Heap.get?_push_size (s.heap.push o) (o := { cls := .type "enumerate", data := .fields #[.none, .bool false, .ref s.heap.objs.size, rawInt 0, .none, .none] }) rfl
    rw [hz] at this; exact this
  refine ⟨⟨_, he, rfl⟩, h _ he (Heap.get?_push_of_some _ (Heap.get?_push_size _ B.free)) (by rw [Heap.size_push, hz]) fun b o x => Heap.get?_push_of_some _ (Heap.get?_push_of_some _ x)⟩
theorem enumT_end {e it l : Addr} {i : Int} {k : Nat} {items : Array Value} {old : Value} {Q : Option Value → Shared → Prop} (hh : A.handled = none)
    (he : IsEnum s.heap e it i old) (hit : s.heap.IsTupleIter it l k) (hl : s.heap.IsTuple l items) (hx : items[k]? = none)
    (hQ : ∀ h', Heap.ExtBut it s.heap h' → Q none { s with heap := h' }) : wpAny (model prog w) A (pyNext (.ref e)) Q E s := by
  have hT : s.TypeIs (.ref e) "enumerate" := ⟨_, he, rfl⟩
  unfold pyNext
  refine wpAny_bind (wpAny_attempt (wpAny_callSpecial?_slot (name := Str.ofString "__next__") hT F.slot_enumerate_next
    (wpAny_call_entry F.slot_enumerate_next hT F.entry_enumerate_next ?_ (F.args_enumerate_next_1 _))))
  show wpAny _ _ (field (.ref e) 2 >>= _) _ _ _
  refine wpAny_bind (wpAny_field he rfl (x := .ref it) rfl ?_)
  refine wpAny_bind (wpAny_nextOf_tuple_end hh hit hl hx fun h' x he' hx' => ?_)
  obtain ⟨o, ho, hc⟩ := hx'
  refine wpAny_bind (wpAny_isInstance (T := "StopIteration") (b := true) ⟨o, ho, hc⟩ isSubtype_stop ?_)
  exact wpAny_pure (hQ _ he')
end
/-- the tuple at a, each item in a new pair -/
def IteT (K : PySem.W.Frag) (a : Addr) : It :=
  ⟨fun i H => ∃ (xs : List V) (x : V), SqT K H a xs ∧ xs[i]? = some x, fun i H v H' => ∃ T x, v = .ref T ∧ H T = none ∧ H' = upd H T (.tup [.int (i : Nat), x]) ∧ ∀ xs, SqT K H a xs → xs[i]? = some x, fun i H => ∃ xs : List V, SqT K H a xs ∧ xs.length ≤ i⟩
theorem turn_enumT {P : Program} {w : World} {K : PySem.W.Frag} {elts : List Expr} {kk : Nat} {tpos : Pos} (a e it : Addr) :
    Turn P w K (.Tuple elts kk tpos) (IteT K a) [e, it] e (fun i h => (∃ old, IsEnum h e it ((i : Nat) : Int) old) ∧ h.IsTupleIter it a i ∧ e ≠ it) where
  mem := by simp
  obj := fun i h st b hb => by
    obtain ⟨⟨old, he⟩, ⟨o, ho, hc, hd⟩, _⟩ := st
    have e' : b = e ∨ b = it := by simpa using hb
    rcases e' with z | z
    · rw [z]; exact ⟨_, he, fun v q => nomatch q⟩
    · rw [z]; exact ⟨o, ho, fun v q => by rw [hd] at q; cases q⟩
  keep := fun i h h' st k => let ⟨⟨old, he⟩, hi, hne⟩ := st; ⟨⟨old, k e (by simp) _ he⟩, hi.at fun o q => k it (by simp) o q, hne⟩
  item := by
    intro X hP hw hK hc i pins s σ H E I hf st hg
    subst hP hw hK
    obtain ⟨⟨old, he⟩, hit, hne⟩ := st
    obtain ⟨xs, x, hq, hx⟩ := hg
    obtain ⟨its, rv, p, hz⟩ := I.tuple hq
    have p : s.heap.IsTuple a its.toArray := p
    obtain ⟨u, hu, ru⟩ := rv.get hx
    have hel : e < s.heap.objs.size := Heap.lt_size he
    have hil : it < s.heap.objs.size := by obtain ⟨_, q, _⟩ := hit; exact Heap.lt_size q
    have hea : e ≠ a := by
      rintro rfl
      obtain ⟨o, ho, hc', _⟩ := p
      rw [he] at ho
      cases ho
      exact absurd (show Value.type "enumerate" = Value.type "tuple" from hc') (by decide +kernel)
    have hia : a ≠ it := by
      rintro rfl
      obtain ⟨o, ho, hc', _⟩ := p
      obtain ⟨o2, ho2, hc2, _⟩ := hit
      rw [ho2] at ho
      cases ho
      rw [hc2] at hc'
      exact absurd hc' (by decide +kernel)
    have hsz : i < its.toArray.size := by
      have := (List.getElem?_eq_some_iff.mp hu).1
      simpa using this
    refine wpAny_pyNext_enum_itemD (Draws.tuple (A := X.A.in1) (I.ok.hd hc) it a hia its.toArray) he ⟨hit, p⟩ hsz hne (by simp [hne, hea]) fun u' h' tk hu' ho hst' hT hsz' hk => ?_
    obtain rfl : u' = u := by
      have : its[i]? = some u' := by simpa using hu'
      rw [hu] at this
      exact (Option.some.inj this).symm
    refine ⟨_, rfl, wpAny_letOwnedTupleGo_enum (s := { s with heap := h', toks := tk + 1 }) ho fun h'' he' sb => ?_⟩
    have hT2 : h''.get? s.heap.objs.size = some { cls := .type "tuple", data := .seq #[.int i tk, u'] } := (sb.2 _ (Nat.ne_of_gt hel)).trans hT
    have new : ObjOk X.prog X.w (upd H s.heap.objs.size (.tup [.int (i : Nat), x])) h'' s.heap.objs.size (.tup [.int (i : Nat), x]) :=
      ⟨by show 2 ≤ sizeLine; decide, [.int i tk, u'], .cons ⟨_, rfl⟩ (.cons ru .nil), ⟨_, hT2, rfl, _, rfl⟩⟩
    have I1 : Inv X pins σ (upd H s.heap.objs.size (.tup [.int (i : Nat), x])) { s with heap := h'', toks := tk + 1 } :=
      I.turnedNew (ch := [e, it]) (fun b ob hb q => (sb.2 b (fun z => hb (by simp [z]))).trans (hk b ob (fun z => hb (by simp [z])) (fun z => hb (by simp [z])) q)) hf (Nat.le_refl _) new
    refine ⟨.ref s.heap.objs.size, _, I1, rfl, ⟨_, x, rfl, I.hok.fresh (Nat.le_refl _), rfl, fun ys hy => by rw [I.tuple_inj hy hq]; exact hx⟩, ⟨⟨u', ?_⟩, hst'.1.at fun o q => (sb.2 it (Ne.symm hne)).trans q, hne⟩, fun b hb => ?_⟩
    · have e1 : ((i + 1 : Nat) : Int) = (i : Int) + 1 := by omega
      rw [e1]; exact he'
    · have hb' : b < s.heap.objs.size := by
        have e' : b = e ∨ b = it := by simpa using hb
        rcases e' with z | z
        · rw [z]; exact hel
        · rw [z]; exact hil
      rw [upd_ne (Nat.ne_of_lt hb')]
      exact (hf b hb).1
  done := by
    intro X hP hw hK hc i pins s σ H E I hf st hg
    subst hP hw hK
    obtain ⟨⟨old, he⟩, hit, hne⟩ := st
    obtain ⟨xs, hq, hx⟩ := hg
    obtain ⟨its, rv, p, hz⟩ := I.tuple hq
    have p : s.heap.IsTuple a its.toArray := p
    obtain ⟨f0, f1, f2, f3, f4, f5⟩ := hf it (by simp)
    have hl := rv.length
    exact enumT_end (I.ok.hd hc) he hit p (by simp; omega) fun h' eb => ⟨rfl, I.turned (t' := s.toks) (fun b o hb q => eb b o hb q) f0 f1 f3 f4 f5⟩
  self := fun A i s Q E st h => let ⟨⟨_, he⟩, _⟩ := st; wpAny_pyIter_enum he h
def iEnumT (K : PySem.W.Frag) (ta : TA) : TI := fun σ H R => ta σ H fun vs H1 => ∃ a xs, vs = [.ref a] ∧ SqT K H1 a xs ∧ R (IteT K a) H1
theorem pi_enumT {X : Cx} {e : Expr} {ta : TA} {p pos tpos : Pos} {elts : List Expr} {kk : Nat} (hg : Gl X "enumerate") (hm : X.mg "enumerate" = none) (ha : PA X [e] ta) (hs : starEach [e] X.env = [(false, eval e X.env)] := by rfl) :
    PI X (.Tuple elts kk tpos) (.Call (.Name "enumerate" p) [e] [] pos) (iEnumT X.K ta) := by
  refine ⟨fun pins s σ H R I h => ?_⟩
  refine Call_ (ld_blt I hg hm boot_enumerate (PyProof.Rows.callWith_type1 (thn (ha.run pos pins s σ H _ I h) fun us s1 ⟨vs, H1, I1, r1, q1⟩ => ?_) hs rfl))
  obtain ⟨a, xs, ex, hq, q⟩ := q1
  subst ex
  cases r1 with
  | cons r rr =>
    cases rr
    cases r
    obtain ⟨its, rv, p', hz⟩ := I1.tuple hq
    refine enum1_begins (begins_tuple a its.toArray) p' fun h' he hit hsz hk => wpAny_pyIter_enum he ?_
    have I2 : Inv X pins σ H1 { s1 with heap := h' } := I1.kept (t' := s1.toks) hk
    refine ⟨s1.heap.objs.size + 1, [s1.heap.objs.size + 1, s1.heap.objs.size], _, _, H1, rfl, I2, turn_enumT a (s1.heap.objs.size + 1) s1.heap.objs.size, ⟨⟨.none, he⟩, ⟨_, hit, rfl, rfl⟩, Nat.succ_ne_self _⟩, fun b hb => ?_, q⟩
    have e' : b = s1.heap.objs.size + 1 ∨ b = s1.heap.objs.size := by simpa using hb
    have hle : s1.heap.objs.size ≤ b := by
      rcases e' with z | z
      · rw [z]; exact Nat.le_add_right _ _
      · rw [z]; exact Nat.le_refl _
    exact I1.fpOk hle (I1.hok.fresh hle)
end Wp
set_option Elab.async false
set_option linter.all false
set_option maxRecDepth 100000
set_option maxHeartbeats 4000000
/-! Comprehensions of two clauses; over enumerate. -/
namespace Wp
open PySem PySem.Spec PyProof.Rows L2
def LcIn (J1 : It) (g1 : TG) (tt1 : TT) (te : TE) (vs1 : List Nat) (σ2 : L2.St) (Da : Addr) (Nx : Hp → Prop) (H4 : Hp) : Prop := ∃ W1 : Nat → Nat → Hp → Prop, (∃ m, W1 0 m H4) ∧ ∀ j k H, W1 j k H →
  (J1.stop j H ∧ Nx H) ∨ (J1.go j H ∧ ∃ Nx1 : Hp → Prop, (∀ H', Nx1 H' → ∃ k', k' < k ∧ W1 (j + 1) k' H') ∧ ∀ x H', J1.yld j H x H' → g1 x (wipe σ2 vs1) H' fun σ3 H5 => wipe σ3 vs1 = wipe σ2 vs1 ∧ tt1 σ3 H5 fun b H6 =>
    if b = true then te σ3 H6 fun y H7 => ∃ acc, H7 Da = some (.lst acc) ∧ acc.length < sizeLine ∧ Nx1 (upd H7 Da (.lst (acc ++ [y]))) else Nx1 H6)
def kLc2T (wi1 : TI) (g1 : TG) (tt1 : TT) (te : TE) (vs1 : List Nat) (σ2 : L2.St) (Da : Addr) (Nx : Hp → Prop) : Bool → Hp → Prop := fun b H3 => if b = true then wi1 σ2 H3 (fun J1 H4 => LcIn J1 g1 tt1 te vs1 σ2 Da Nx H4) else Nx H3
def kLc2G (tt : TT) (wi1 : TI) (g1 : TG) (tt1 : TT) (te : TE) (vs vs1 : List Nat) (σ : L2.St) (Da : Addr) (Nx : Hp → Prop) : L2.St → Hp → Prop := fun σ2 H2 => wipe σ2 vs = wipe σ vs ∧ tt σ2 H2 (kLc2T wi1 g1 tt1 te vs1 σ2 Da Nx)
def kLc2In (K : PySem.W.Frag) (g1 : TG) (tt1 : TT) (te : TE) (vs1 : List Nat) (σ2 : L2.St) (Da : Addr) (Nx : Hp → Prop) : VK := fun x H1 => ∃ a, x = .ref a ∧ (∃ xs, SqT K H1 a xs) ∧ LcIn (Itt K a) g1 tt1 te vs1 σ2 Da Nx H1
def LcW2 (J : It) (g : TG) (tt : TT) (wi1 : TI) (g1 : TG) (tt1 : TT) (te : TE) (vs vs1 : List Nat) (σ : L2.St) (Q : VK) (H1 : Hp) : Prop := ∀ D, H1 D = none → ∃ W : Nat → Nat → Hp → Prop, (∃ m, W 0 m (upd H1 D (.lst []))) ∧ ∀ i m H, W i m H →
  (J.stop i H ∧ Q (.ref D) H) ∨ (J.go i H ∧ ∃ Nx : Hp → Prop, (∀ H', Nx H' → ∃ m', m' < m ∧ W (i + 1) m' H') ∧ ∀ x H', J.yld i H x H' → g x (wipe σ vs) H' (kLc2G tt wi1 g1 tt1 te vs vs1 σ D Nx))
def kLc2E (K : PySem.W.Frag) (g : TG) (tt : TT) (wi1 : TI) (g1 : TG) (tt1 : TT) (te : TE) (vs vs1 : List Nat) (σ : L2.St) (Q : VK) : List V → Hp → Prop := fun ws H1 => ∃ a xs, ws = [.ref a] ∧ SqT K H1 a xs ∧ LcW2 (IteT K a) g tt wi1 g1 tt1 te vs vs1 σ Q H1
section
variable {K : PySem.W.Frag} {g g1 : TG} {tt tt1 : TT} {wi1 : TI} {te tl : TE} {ta : TA} {vs vs1 : List Nat} {σ σ2 : L2.St} {H : Hp} {Q : VK} {Da a : Addr} {Nx : Hp → Prop} {xs ys : List V} {b : Bool}
theorem r_lc2E (q : ta σ H (kLc2E K g tt wi1 g1 tt1 te vs vs1 σ Q)) : tLc2 (iEnumT K ta) g tt wi1 g1 tt1 te vs vs1 σ H Q := q
theorem r_kLc2G (h : wipe σ2 vs = wipe σ vs) (q : tt σ2 H (kLc2T wi1 g1 tt1 te vs1 σ2 Da Nx)) : kLc2G tt wi1 g1 tt1 te vs vs1 σ Da Nx σ2 H := ⟨h, q⟩
theorem r_kLc2T (q : tl σ2 H (kLc2In K g1 tt1 te vs1 σ2 Da Nx)) : kLc2T (iTup K tl) g1 tt1 te vs1 σ2 Da Nx true H := q
theorem r_kLc2In (R : Nat → Hp → Prop) (hl : SqT K H a ys) (h0 : R 0 H) (hk : ∀ j H', R j H' → SqT K H' a ys)
    (hs : ∀ j z H', ys[j]? = some z → R j H' → g1 z (wipe σ2 vs1) H' (kLcG tt1 te vs1 σ2 Da (fun _ => R) j)) (hd : ∀ H', R ys.length H' → Nx H') : kLc2In K g1 tt1 te vs1 σ2 Da Nx (.ref a) H := by
  refine ⟨a, rfl, ⟨ys, hl⟩, fun j m H => m = ys.length - j ∧ j ≤ ys.length ∧ R j H, ⟨ys.length, by simp, Nat.zero_le _, h0⟩, ?_⟩
  rintro i m H ⟨rfl, hi, p⟩
  have q := hk i H p
  by_cases hlt : i < ys.length
  · refine .inr ⟨⟨ys, ys[i], q, by simp [hlt]⟩, R (i + 1), fun H' p' => ⟨ys.length - (i + 1), by omega, rfl, hlt, p'⟩, fun x H' y => ?_⟩
    obtain ⟨e, y⟩ := y
    subst e
    exact hs i x _ (y ys q) p
  · have e : i = ys.length := by omega
    subst e
    exact .inl ⟨⟨ys, q, Nat.le_refl _⟩, hd H p⟩
theorem r_kLc2E (Pv : Addr → Nat → Hp → Prop) (hl : SqT K H a xs) (h0 : ∀ Da H', H Da = none → Same H H' → H' Da = some (.lst []) → Pv Da 0 H') (hk : ∀ Da i H', Pv Da i H' → SqT K H' a xs)
    (hs : ∀ Da i x T H1 H', H Da = none → xs[i]? = some x → Pv Da i H1 → H1 T = none → Same H1 H' → H' T = some (.tup [.int (i : Nat), x]) → g (.ref T) (wipe σ vs) H' (kLc2G tt wi1 g1 tt1 te vs vs1 σ Da (Pv Da (i + 1))))
    (hd : ∀ Da H', H Da = none → Pv Da xs.length H' → Q (.ref Da) H') : kLc2E K g tt wi1 g1 tt1 te vs vs1 σ Q [.ref a] H := by
  refine ⟨a, xs, rfl, hl, fun D hD => ⟨fun i m H => m = xs.length - i ∧ i ≤ xs.length ∧ Pv D i H, ⟨xs.length, by simp, Nat.zero_le _, h0 D _ hD (Same.new hD) upd_same⟩, ?_⟩⟩
  rintro i m H ⟨rfl, hi, p⟩
  have q := hk D i H p
  by_cases hlt : i < xs.length
  · refine .inr ⟨⟨xs, xs[i], q, by simp [hlt]⟩, Pv D (i + 1), fun H' p' => ⟨xs.length - (i + 1), by omega, rfl, hlt, p'⟩, fun x H' y => ?_⟩
    obtain ⟨T, z, rfl, nT, rfl, y⟩ := y
    exact hs D i z T H _ hD (y xs q) p nT (Same.new nT) upd_same
  · have e : i = xs.length := by omega
    subst e
    exact .inl ⟨⟨xs, q, Nat.le_refl _⟩, hd D H hD p⟩
/-! for over enumerate(list) -/
def kForE (K : PySem.W.Frag) (g : TG) (tw : TS) (D : Ends) (σ : L2.St) : List V → Hp → Prop := fun ws H1 => ∃ a xs, ws = [.ref a] ∧ SqL K H1 a xs ∧
  ∃ W : Nat → Nat → L2.St → Hp → Prop, (∃ m, W 0 m σ H1) ∧ ∀ i m σ H, W i m σ H →
  ((Ite K a).stop i H ∧ D.nx σ H) ∨ ((Ite K a).go i H ∧ ∃ N : L2.St → Hp → Prop, (∀ σ' H', N σ' H' → ∃ m', m' < m ∧ W (i + 1) m' σ' H') ∧
    ∀ x H', (Ite K a).yld i H x H' → g x σ H' fun σ2 H2 => tw { D with nx := N, ct := N, bk := D.nx } σ2 H2)
variable {tw : TS} {D : Ends}
theorem r_forE (q : ta σ H (kForE K g tw D σ)) : tFor (iEnum K ta) g tw D σ H := q
theorem r_kForE (Pv : Nat → L2.St → Hp → Prop) (hl : SqL K H a xs) (h0 : Pv 0 σ H) (hk : ∀ i σ' H', Pv i σ' H' → SqL K H' a xs)
    (hs : ∀ i x T σ' H1 H', xs[i]? = some x → Pv i σ' H1 → H1 T = none → Same H1 H' → H' T = some (.tup [.int (i : Nat), x]) → g (.ref T) σ' H' fun σ2 H2 => tw { D with nx := Pv (i + 1), ct := Pv (i + 1), bk := D.nx } σ2 H2)
    (hd : ∀ σ' H', Pv xs.length σ' H' → D.nx σ' H') : kForE K g tw D σ [.ref a] H := by
  refine ⟨a, xs, rfl, hl, fun i m σ H => m = xs.length - i ∧ i ≤ xs.length ∧ Pv i σ H, ⟨xs.length, by simp, Nat.zero_le _, h0⟩, ?_⟩
  rintro i m σ H ⟨rfl, hi, p⟩
  have q := hk i σ H p
  by_cases hlt : i < xs.length
  · refine .inr ⟨⟨xs, xs[i], q, by simp [hlt]⟩, Pv (i + 1), fun σ' H' p' => ⟨xs.length - (i + 1), by omega, rfl, hlt, p'⟩, fun x H' y => ?_⟩
    obtain ⟨T, z, rfl, nT, rfl, y⟩ := y
    exact hs i z T σ H _ (y xs q) p nT (Same.new nT) upd_same
  · have e : i = xs.length := by omega
    subst e
    exact .inl ⟨⟨xs, q, Nat.le_refl _⟩, hd σ H p⟩
end
end Wp
set_option Elab.async false
set_option linter.all false
set_option maxRecDepth 100000
set_option maxHeartbeats 4000000
/-! f(e, *y); enumerate with the frag named. -/
namespace Wp
open PySem PySem.Spec PyProof.Rows L2
section
variable {X : Cx} {K : PySem.W.Frag}
theorem pe_fnS {CX : CXT} {k : Nat} {x : Str} {ps : List Str} {sp : Sp} {E : XK} {e : Expr} {es : List Expr}
    {t : TA} {p pos : Pos} (D : Dn X.prog X.w X.K X.mg X.base CX k x ps sp) (hr : Room k X.A)
    (hx : Passes CX X E) (ha : PA X (e :: es) t) (hg : Gl X x := by rfl)
    (hdb : (x == ("__debug__" : Str)) = false := by decide)
    (he : starEach (e :: es) X.env = (false, eval e X.env) :: starEach es X.env := by rfl)
    (hpl : (backTo pos (starEach es X.env)).any (·.1) = true := by rfl) :
    PE X (.Call (.Name x p) (e :: es) [] pos) (tFn sp E t) := by
  obtain ⟨fd, F, b⟩ := D.ex
  have F2 : FnR X.prog X.w X.K X.mg X.base CX k (He.ga X.K x) sp := (F.raw b .nil).imp fun vs H Q E h => by
    show sp (vs ++ []) H Q E
    rw [List.append_nil]
    exact h
  exact StX.pe_callS2 F2 hr D.kp hg D.gm hx ha hdb he hpl
theorem pi_enumTK {e : Expr} {ta : TA} {p pos tpos : Pos} {elts : List Expr} {kk : Nat} (h : X.K = K) (hg : Gl X "enumerate") (hm : X.mg "enumerate" = none) (ha : PA X [e] ta) (hs : starEach [e] X.env = [(false, eval e X.env)] := by rfl) :
    PI X (.Tuple elts kk tpos) (.Call (.Name "enumerate" p) [e] [] pos) (iEnumT K ta) := by
  subst h
  exact pi_enumT hg hm ha hs
theorem pi_enumK {e : Expr} {ta : TA} {p pos tpos : Pos} {elts : List Expr} {kk : Nat} (h : X.K = K) (hg : Gl X "enumerate") (hm : X.mg "enumerate" = none) (ha : PA X [e] ta) (hs : starEach [e] X.env = [(false, eval e X.env)] := by rfl) :
    PI X (.Tuple elts kk tpos) (.Call (.Name "enumerate" p) [e] [] pos) (iEnum K ta) := by
  subst h
  exact pi_enum hg hm ha hs
theorem pe_orTK {a b : Expr} {ta tb : TE} {rest : List Expr} {pos : Pos} (h : X.K = K) (ha : PE X a ta) (hb : PE X (.BoolOp .Or (b :: rest) pos) tb) : PE X (.BoolOp .Or (a :: b :: rest) pos) (tOrT K ta tb) := by
  subst h
  exact pe_orT ha hb
def kOrT (K : PySem.W.Frag) (tb : TE) (σ : L2.St) (Q : VK) : VK := fun x H1 => ∃ k, TruV K x H1 k ∧ if k = true then Q x H1 else tb σ H1 Q
variable {ta tb : TE} {σ : L2.St} {H : Hp} {Q : VK}
theorem r_orT (q : ta σ H (kOrT K tb σ Q)) : tOrT K ta tb σ H Q := q
theorem r_kOrTn (q : tb σ H Q) : kOrT K tb σ Q .non H := ⟨false, rfl, q⟩
theorem r_kOrTt {p : Addr} {xs : List V} (h : SqT K H p xs) (q1 : xs ≠ [] → Q (.ref p) H) (q2 : xs = [] → tb σ H Q) : kOrT K tb σ Q (.ref p) H := by
  cases xs with
  | nil => exact ⟨false, .inr (.inl ⟨[], h, rfl⟩), q2 rfl⟩
  | cons x xs => exact ⟨true, .inr (.inl ⟨_, h, rfl⟩), q1 (List.cons_ne_nil _ _)⟩
end
end Wp
set_option Elab.async false
set_option linter.all false
set_option maxRecDepth 100000
set_option maxHeartbeats 4000000
/-! Dicts from texts to ints, plain. -/
namespace Wp
open PySem PySem.Spec PyProof.Rows L2
abbrev SD := List (Str × Int)
def lookS : SD → Str → Option Int
  | [], _ => none
  | (k, c) :: r, z => if k = z then some c else lookS r z
theorem lookS_cons (k : Str) (c : Int) (r : SD) (z : Str) : lookS ((k, c) :: r) z = if k = z then some c else lookS r z := rfl
def putS (t : SD) (z : Str) (c : Int) : SD := if (t.any fun p => decide (p.1 = z)) = true then t.map (fun p => if p.1 = z then (p.1, c) else p) else t ++ [(z, c)]
def addKey (ks : List Str) (k : Str) : List Str := if k ∈ ks then ks else ks ++ [k]
theorem anyS_look : ∀ (t : SD) (z : Str), (t.any fun p => decide (p.1 = z)) = (lookS t z).isSome
  | [], z => rfl
  | (k, c) :: r, z => by
    rw [lookS_cons]
    by_cases h : k = z
    · simp [h]
    · rw [List.any_cons, anyS_look r z]
      simp [h]
theorem lookS_none : ∀ {t : SD} {z : Str}, lookS t z = none ↔ z ∉ t.map (·.1)
  | [], z => by simp [lookS]
  | (k, c) :: r, z => by
    have := lookS_none (t := r) (z := z)
    rw [lookS_cons]
    by_cases h : k = z
    · simp [h]
    · rw [if_neg h, this]
      simp
      intro _ e
      exact h e.symm
theorem putS_keys (t : SD) (z : Str) (c : Int) : (putS t z c).map (·.1) = addKey (t.map (·.1)) z := by
  unfold putS addKey
  rw [anyS_look]
  by_cases h : (lookS t z).isSome = true
  · have : z ∈ t.map (·.1) := by
      by_cases hz : z ∈ t.map (·.1)
      · exact hz
      · rw [lookS_none.mpr hz] at h
        cases h
    rw [if_pos h, if_pos this, List.map_map]
    refine List.map_congr_left fun p _ => ?_
    show (if p.1 = z then (p.1, c) else p).1 = p.1
    split <;> rfl
  · have : z ∉ t.map (·.1) := lookS_none.mp (by simpa using h)
    rw [if_neg h, if_neg this]
    simp
theorem lookS_map (c : Int) (z y : Str) : ∀ (t : SD), lookS (t.map fun p => if p.1 = z then (p.1, c) else p) y = if y = z then (lookS t z).map (fun _ => c) else lookS t y
  | [] => by simp [lookS]
  | (k, e) :: r => by
    have := lookS_map c z y r
    rw [List.map_cons]
    by_cases hk : k = z
    · subst hk
      rw [if_pos rfl, lookS_cons, lookS_cons, lookS_cons]
      by_cases hy : y = k
      · simp [hy]
      · rw [if_neg (fun z => hy z.symm), this, if_neg hy, if_neg hy, if_neg (fun z => hy z.symm)]
    · rw [if_neg hk]
      rw [lookS_cons, this, lookS_cons, lookS_cons]
      by_cases hy : y = z
      · subst hy
        rw [if_neg hk, if_pos rfl, if_pos rfl, if_neg hk]
      · rw [if_neg hy, if_neg hy]
theorem lookS_app (z : Str) (c : Int) (y : Str) : ∀ (t : SD), lookS t z = none → lookS (t ++ [(z, c)]) y = if y = z then some c else lookS t y
  | [], _ => by
    show (if z = y then some c else none) = _
    by_cases h : y = z
    · rw [if_pos h, if_pos h.symm]
    · rw [if_neg h, if_neg fun e => h e.symm]
      rfl
  | (k, e) :: r, h => by
    rw [lookS_cons] at h
    by_cases hk : k = z
    · rw [if_pos hk] at h
      cases h
    · rw [if_neg hk] at h
      have := lookS_app z c y r h
      show (if k = y then some e else lookS (r ++ [(z, c)]) y) = _
      rw [this]
      rw [lookS_cons]
      by_cases hy : k = y
      · rw [if_pos hy, if_pos hy, if_neg fun e => hk (hy.trans e)]
      · rw [if_neg hy, if_neg hy]
theorem putS_look (t : SD) (z : Str) (c : Int) (y : Str) : lookS (putS t z c) y = if y = z then some c else lookS t y := by
  unfold putS
  rw [anyS_look]
  cases h : lookS t z with
  | none => rw [if_neg (by simp), lookS_app z c y t h]
  | some v =>
    rw [if_pos (show (some v).isSome = true from rfl), lookS_map, h]
    rfl
theorem sd_of_look : ∀ {t : SD}, (t.map (·.1)).Nodup → t = (t.map (·.1)).map fun k => (k, (lookS t k).getD 0)
  | [], _ => rfl
  | (k, c) :: r, nd => by
    rw [List.map_cons, List.nodup_cons] at nd
    have ih := sd_of_look nd.2
    rw [List.map_cons, List.map_cons]
    congr 1
    · simp [lookS]
    · conv => lhs; rw [ih]
      refine List.map_congr_left fun y hy => ?_
      show (y, (lookS r y).getD 0) = (y, (if k = y then some c else lookS r y).getD 0)
      rw [if_neg fun e => nd.1 (by rw [e]; exact hy)]
end Wp
set_option Elab.async false
set_option linter.all false
set_option maxRecDepth 100000
set_option maxHeartbeats 4000000
/-! Dicts from texts to ints, on the heap. -/
namespace Wp
open PySem PySem.Spec PyProof.Rows L2
def encS (t : SD) : List (Key × V) := t.map fun p => (Sum.inr p.1, V.int p.2)
theorem valV_encS (z : Str) : ∀ t : SD, valV (encS t) (Sum.inr z : Key) = (lookS t z).map V.int
  | [] => rfl
  | (k, c) :: r => by
    have := valV_encS z r
    show valV ((Sum.inr k, V.int c) :: encS r) (Sum.inr z : Key) = (lookS ((k, c) :: r) z).map V.int
    rw [lookS_cons]
    by_cases h : k = z
    · rw [if_pos h, valV_pos (by rw [h])]
      rfl
    · rw [if_neg h, valV_neg (fun e => h (Sum.inr.inj e)), this]
theorem encS_any (z : Str) : ∀ t : SD, ((encS t).any fun kv => decide (kv.1 = (Sum.inr z : Key))) = t.any fun p => decide (p.1 = z)
  | [] => rfl
  | (k, c) :: r => by
    have := encS_any z r
    show (decide ((Sum.inr k : Key) = Sum.inr z) || (encS r).any _) = (decide (k = z) || r.any _)
    rw [this]
    congr 1
    exact decide_eq_decide.mpr ⟨fun e => Sum.inr.inj e, fun e => by rw [e]⟩
theorem putK_encS (t : SD) (z : Str) (c : Int) : putK (encS t) (Sum.inr z : Key) (.int c) = encS (putS t z c) := by
  unfold putK putS
  rw [encS_any]
  split
  · unfold encS
    rw [List.map_map, List.map_map]
    refine List.map_congr_left fun p _ => ?_
    show (if (Sum.inr p.1 : Key) = Sum.inr z then (Sum.inr p.1, V.int c) else (Sum.inr p.1, V.int p.2)) = (Sum.inr (if p.1 = z then (p.1, c) else p).1, V.int (if p.1 = z then (p.1, c) else p).2)
    by_cases h : p.1 = z
    · rw [if_pos (by rw [h]), if_pos h]
    · rw [if_neg (fun e => h (Sum.inr.inj e)), if_neg h]
  · unfold encS
    rw [List.map_append]
    rfl
theorem encS_keys (t : SD) : (encS t).map (·.1) = (t.map (·.1)).map (Sum.inr : Str → Key) := by
  unfold encS
  rw [List.map_map, List.map_map]
  rfl
theorem encS_len (t : SD) : (encS t).length = t.length := List.length_map _
section
variable {K : PySem.W.Frag} {H : Hp} {Q : VK} {D : Ends} {σ : L2.St} {a : Addr} {t : SD} {z : Str} {c j : Int} {ty tx tv : TE} {rd : V → V → Hp → VK → Prop}
theorem r_kDGetSS (h : H a = some (.dK (encS t))) (e : lookS t z = some c) (q : Q (.int c) H) : kDGet Q (.ref a) (.str z) H := r_kDGetS h (by rw [valV_encS, e]; rfl) q
theorem r_kDPutSS (h : H a = some (.dK (encS t))) (hz : t.length < 1000000) (q : ∀ H', But a H H' → H' a = some (.dK (encS (putS t z c))) → D.nx σ H') : kDPut D σ (.int c) (.ref a) (.str z) H :=
  r_kDPutS h (by rw [encS_len]; exact hz) fun H' b h' => q H' b (by rw [← putK_encS]; exact h')
theorem r_kDGet2S (h : H a = some (.dK (encS t))) (q : Q (.int ((lookS t z).getD j)) H) : kDGet2z a Q (.str z) (.int j) H := by
  refine ⟨(lookS t z).map V.int, .inl ⟨encS t, Sum.inr z, .inl h, rfl, (valV_encS z t).symm⟩, ?_⟩
  revert q
  cases lookS t z <;> exact id
end
end Wp
set_option Elab.async false
set_option linter.all false
set_option maxRecDepth 100000
set_option maxHeartbeats 4000000
/-! Rates of names, and orders of them, plain. -/
namespace Wp
open PySem PySem.Spec PyProof.Rows L2
structure RtOk (t : SD) : Prop where
  lo : 1 ≤ t.length
  hi : t.length ≤ 6
  nm : NamesOk (t.map (·.1))
  rt : ∀ p ∈ t, 0 ≤ p.2 ∧ p.2 ≤ 1000
theorem look_mem : ∀ {t : SD} {z : Str} {c : Int}, (t.map (·.1)).Nodup → (z, c) ∈ t → lookS t z = some c
  | [], _, _, _, h => by cases h
  | (k, d) :: t, z, c, nd, h => by
    rw [List.map_cons, List.nodup_cons] at nd
    rcases List.mem_cons.mp h with e | h
    · injection e with e1 e2
      subst e1
      subst e2
      rw [lookS_cons, if_pos rfl]
    · rw [lookS_cons, if_neg fun e => nd.1 (List.mem_map.mpr ⟨_, h, e.symm⟩)]
      exact look_mem nd.2 h
theorem look_in {t : SD} {z : Str} (h : z ∈ t.map (·.1)) : ∃ c, lookS t z = some c := by
  cases e : lookS t z with
  | some c => exact ⟨c, rfl⟩
  | none => exact absurd h (lookS_none.mp e)
theorem look_of : ∀ {t : SD} {z : Str} {c : Int}, lookS t z = some c → (z, c) ∈ t
  | [], _, _, h => by cases h
  | (k, d) :: t, z, c, h => by
    rw [lookS_cons] at h
    by_cases e : k = z
    · rw [if_pos e] at h
      injection h with h
      subst e
      subst h
      exact List.mem_cons_self ..
    · rw [if_neg e] at h
      exact List.mem_cons_of_mem _ (look_of h)
/-- the rate of a name -/
def rateT (t : SD) (z : Str) : Int := (lookS t z).getD 0
theorem rateT_of {t : SD} {z : Str} {c : Int} (h : lookS t z = some c) : rateT t z = c := by unfold rateT; rw [h]; rfl
theorem RtOk.look {t : SD} (ok : RtOk t) {z : Str} (h : z ∈ t.map (·.1)) : lookS t z = some (rateT t z) := by
  obtain ⟨c, hc⟩ := look_in h
  rw [hc, rateT_of hc]
theorem RtOk.rate {t : SD} (ok : RtOk t) (z : Str) : 0 ≤ rateT t z ∧ rateT t z ≤ 1000 := by
  unfold rateT
  cases e : lookS t z with
  | none => exact ⟨Int.le_refl _, by show (0 : Int) ≤ 1000; decide⟩
  | some c => exact ok.rt _ (look_of e)
theorem encS_get {t : SD} {i : Nat} {k : Key} {v : V} (h : (encS t)[i]? = some (k, v)) : ∃ z c, k = Sum.inr z ∧ v = .int c ∧ t[i]? = some (z, c) := by
  unfold encS at h
  rw [List.getElem?_map] at h
  obtain ⟨p, hp, e⟩ := Option.map_eq_some_iff.mp h
  injection e with e1 e2
  exact ⟨p.1, p.2, e1.symm, e2.symm, hp⟩
theorem encS_kV (t : SD) : ((encS t).map fun kv => kV kv.1) = (t.map (·.1)).map V.str := by
  unfold encS
  rw [List.map_map, List.map_map]
  rfl
theorem putS_new {t : SD} {z : Str} {c : Int} (h : z ∉ t.map (·.1)) : putS t z c = t ++ [(z, c)] := by
  unfold putS
  rw [anyS_look, lookS_none.mpr h]
  rfl
section
variable {H : Hp} {Q : VK} {a : Addr} {t : SD} {z : Str} {c : Int} {o : Obj}
theorem r_kDGetSF (h : H a = some (.frz o (.dK (encS t)))) (e : lookS t z = some c) (q : Q (.int c) H) : kDGet Q (.ref a) (.str z) H := r_kDGetF h (by rw [valV_encS, e]; rfl) q
theorem r_listDS (h : H a = some (.dK (encS t))) (k : ∀ q H', H q = none → Same H H' → H' q = some (.lst ((t.map (·.1)).map V.str)) → Q (.ref q) H') : rListD' [.ref a] H Q :=
  r_listD h fun q H' n e h' => k q H' n e (by rw [← encS_kV]; exact h')
end
/-! a dict made in a block, over the keys of a dict -/
section
variable {K : PySem.W.Frag} {H : Hp} {Q : VK} {d : Addr} {σ : L2.St} {g : TG} {tt : TT} {tk tv ta : TE} {vs : List Nat}
def kDcK (g : TG) (tt : TT) (tk tv : TE) (vs : List Nat) (σ : L2.St) (Q : VK) : VK := fun x H1 => ∃ d o, x = .ref d ∧ ((∃ kvs, H1 d = some (.frz o (.dK kvs)) ∧ DcW (Itk d o kvs) g tt tk tv vs σ Q H1) ∨ ∃ kvs, H1 d = some (.frz o (.dT kvs)) ∧ DcW (Itkt d o kvs) g tt tk tv vs σ Q H1)
theorem r_dcK (h : ta σ H (kDcK g tt tk tv vs σ Q)) : tDc (iKeys ta) g tt tk tv vs σ H Q := h
theorem r_kDcK {o : Obj} {kvs : List (Key × V)} (hd : H d = some (.frz o (.dK kvs))) (Pv : Addr → Nat → Hp → Prop) (h0 : ∀ Da H', H Da = none → Same H H' → H' Da = some (.dK []) → Pv Da 0 H') (hk : ∀ Da i H', Pv Da i H' → H' d = some (.frz o (.dK kvs)))
    (hs : ∀ Da i k v H', H Da = none → kvs[i]? = some (k, v) → Pv Da i H' → g (kV k) (wipe σ vs) H' (kDcG tt tk tv vs σ Da Pv i)) (hf : ∀ Da H', H Da = none → Pv Da kvs.length H' → Q (.ref Da) H') : kDcK g tt tk tv vs σ Q (.ref d) H :=
  ⟨d, o, rfl, .inl ⟨kvs, hd, dc_it kvs.length Pv h0 (fun Da i H' _ hi p => ⟨hk Da i H' p, hi⟩) (fun Da H' _ p => ⟨hk Da _ H' p, Nat.le_refl _⟩) (fun Da i x H' H2 hD _ p y => by
    obtain ⟨rfl, k, v, e, rfl⟩ := y
    exact hs Da i k v _ hD e p) hf⟩⟩
end
end Wp
set_option Elab.async false
set_option linter.all false
set_option maxRecDepth 100000
set_option maxHeartbeats 4000000
/-! Comprehensions of two clauses over lists; a dict made over enumerate(tuple); for over enumerate(tuple). -/
namespace Wp
open PySem PySem.Spec PyProof.Rows L2
def kLc2InL (K : PySem.W.Frag) (g1 : TG) (tt1 : TT) (te : TE) (vs1 : List Nat) (σ2 : L2.St) (Da : Addr) (Nx : Hp → Prop) : VK := fun x H1 => ∃ a, x = .ref a ∧ (∃ xs, SqL K H1 a xs) ∧ LcIn (Itl K a) g1 tt1 te vs1 σ2 Da Nx H1
def kLc2L (K : PySem.W.Frag) (g : TG) (tt : TT) (wi1 : TI) (g1 : TG) (tt1 : TT) (te : TE) (vs vs1 : List Nat) (σ : L2.St) (Q : VK) : VK := fun x H1 => ∃ a, x = .ref a ∧ (∃ xs, SqL K H1 a xs) ∧ LcW2 (Itl K a) g tt wi1 g1 tt1 te vs vs1 σ Q H1
section
variable {K : PySem.W.Frag} {g g1 : TG} {tt tt1 : TT} {wi1 : TI} {te tl tk tv : TE} {ta : TA} {vs vs1 : List Nat} {σ σ2 : L2.St} {H : Hp} {Q : VK} {Da a : Addr} {Nx : Hp → Prop} {xs ys : List V} {b : Bool}
theorem r_lc2L (q : tl σ H (kLc2L K g tt wi1 g1 tt1 te vs vs1 σ Q)) : tLc2 (iList K tl) g tt wi1 g1 tt1 te vs vs1 σ H Q := q
theorem r_kLc2TL (q : tl σ2 H (kLc2InL K g1 tt1 te vs1 σ2 Da Nx)) : kLc2T (iList K tl) g1 tt1 te vs1 σ2 Da Nx true H := q
theorem r_kLc2InL (R : Nat → Hp → Prop) (hl : SqL K H a ys) (h0 : R 0 H) (hk : ∀ j H', R j H' → SqL K H' a ys)
    (hs : ∀ j z H', ys[j]? = some z → R j H' → g1 z (wipe σ2 vs1) H' (kLcG tt1 te vs1 σ2 Da (fun _ => R) j)) (hd : ∀ H', R ys.length H' → Nx H') : kLc2InL K g1 tt1 te vs1 σ2 Da Nx (.ref a) H := by
  refine ⟨a, rfl, ⟨ys, hl⟩, fun j m H => m = ys.length - j ∧ j ≤ ys.length ∧ R j H, ⟨ys.length, by simp, Nat.zero_le _, h0⟩, ?_⟩
  rintro i m H ⟨rfl, hi, p⟩
  have q := hk i H p
  by_cases hlt : i < ys.length
  · refine .inr ⟨⟨ys, ys[i], q, by simp [hlt]⟩, R (i + 1), fun H' p' => ⟨ys.length - (i + 1), by omega, rfl, hlt, p'⟩, fun x H' y => ?_⟩
    obtain ⟨e, y⟩ := y
    subst e
    exact hs i x _ (y ys q) p
  · have e : i = ys.length := by omega
    subst e
    exact .inl ⟨⟨ys, q, Nat.le_refl _⟩, hd H p⟩
theorem r_kLc2L (Pv : Addr → Nat → Hp → Prop) (hl : SqL K H a xs) (h0 : ∀ Da H', H Da = none → Same H H' → H' Da = some (.lst []) → Pv Da 0 H') (hk : ∀ Da i H', Pv Da i H' → SqL K H' a xs)
    (hs : ∀ Da i x H', H Da = none → xs[i]? = some x → Pv Da i H' → g x (wipe σ vs) H' (kLc2G tt wi1 g1 tt1 te vs vs1 σ Da (Pv Da (i + 1))))
    (hd : ∀ Da H', H Da = none → Pv Da xs.length H' → Q (.ref Da) H') : kLc2L K g tt wi1 g1 tt1 te vs vs1 σ Q (.ref a) H := by
  refine ⟨a, rfl, ⟨xs, hl⟩, fun D hD => ⟨fun i m H => m = xs.length - i ∧ i ≤ xs.length ∧ Pv D i H, ⟨xs.length, by simp, Nat.zero_le _, h0 D _ hD (Same.new hD) upd_same⟩, ?_⟩⟩
  rintro i m H ⟨rfl, hi, p⟩
  have q := hk D i H p
  by_cases hlt : i < xs.length
  · refine .inr ⟨⟨xs, xs[i], q, by simp [hlt]⟩, Pv D (i + 1), fun H' p' => ⟨xs.length - (i + 1), by omega, rfl, hlt, p'⟩, fun x H' y => ?_⟩
    obtain ⟨e, y⟩ := y
    subst e
    exact hs D i x _ hD (y xs q) p
  · have e : i = xs.length := by omega
    subst e
    exact .inl ⟨⟨xs, q, Nat.le_refl _⟩, hd D H hD p⟩
theorem op_catAK {X : Cx} {K : PySem.W.Frag} (h : X.K = K) : OpR X (binaryOp .Add) (rCatA K) := by subst h; exact op_catA
theorem ip_mul {X : Cx} : PIp X .Mult (rI CMul fun i j => .int (i * j)) := fun pins s σ H x y v u Q I r1 r2 h => iop_mul pins s σ H x y v u Q I r1 r2 h
/-! a dict made over enumerate(tuple) -/
def kDcEn (K : PySem.W.Frag) (g : TG) (tt : TT) (tk tv : TE) (vs : List Nat) (σ : L2.St) (Q : VK) : List V → Hp → Prop := fun ws H1 => ∃ a xs, ws = [.ref a] ∧ SqT K H1 a xs ∧ DcW (IteT K a) g tt tk tv vs σ Q H1
theorem r_dcEn (h : ta σ H (kDcEn K g tt tk tv vs σ Q)) : tDc (iEnumT K ta) g tt tk tv vs σ H Q := h
theorem r_kDcEn (hl : SqT K H a xs) (Pv : Addr → Nat → Hp → Prop) (h0 : ∀ Da H', H Da = none → Same H H' → H' Da = some (.dK []) → Pv Da 0 H') (hk : ∀ Da i H', Pv Da i H' → SqT K H' a xs)
    (hs : ∀ Da i x T H1 H', H Da = none → xs[i]? = some x → Pv Da i H1 → H1 T = none → Same H1 H' → H' T = some (.tup [.int (i : Nat), x]) → g (.ref T) (wipe σ vs) H' (kDcG tt tk tv vs σ Da Pv i)) (hd : ∀ Da H', H Da = none → Pv Da xs.length H' → Q (.ref Da) H') :
    kDcEn K g tt tk tv vs σ Q [.ref a] H :=
  ⟨a, xs, rfl, hl, dc_it xs.length Pv h0 (fun Da i H' _ hi p => ⟨xs, xs[i], hk Da i H' p, by simp [hi]⟩) (fun Da H' _ p => ⟨xs, hk Da _ H' p, Nat.le_refl _⟩) (fun Da i x H' H2 hD _ p y => by
    obtain ⟨T, z, rfl, nT, rfl, y⟩ := y
    exact hs Da i z T H' _ hD (y xs (hk Da i _ p)) p nT (Same.new nT) upd_same) hd⟩
/-! a list made over enumerate(tuple) -/
def kLcEn (K : PySem.W.Frag) (g : TG) (tt : TT) (te : TE) (vs : List Nat) (σ : L2.St) (Q : VK) : List V → Hp → Prop := fun ws H1 => ∃ a xs, ws = [.ref a] ∧ SqT K H1 a xs ∧ LcW (IteT K a) g tt te vs σ Q H1
theorem r_lcEn (h : ta σ H (kLcEn K g tt te vs σ Q)) : tLc (iEnumT K ta) g tt te vs σ H Q := h
theorem r_kLcEn (hl : SqT K H a xs) (Pv : Addr → Nat → Hp → Prop) (h0 : ∀ Da H', H Da = none → Same H H' → H' Da = some (.lst []) → Pv Da 0 H') (hk : ∀ Da i H', Pv Da i H' → SqT K H' a xs)
    (hs : ∀ Da i x T H1 H', H Da = none → xs[i]? = some x → Pv Da i H1 → H1 T = none → Same H1 H' → H' T = some (.tup [.int (i : Nat), x]) → g (.ref T) (wipe σ vs) H' (kLcG tt te vs σ Da Pv i)) (hd : ∀ Da H', H Da = none → Pv Da xs.length H' → Q (.ref Da) H') :
    kLcEn K g tt te vs σ Q [.ref a] H :=
  ⟨a, xs, rfl, hl, lc_it xs.length Pv h0 (fun Da i H' _ hi p => ⟨xs, xs[i], hk Da i H' p, by simp [hi]⟩) (fun Da H' _ p => ⟨xs, hk Da _ H' p, Nat.le_refl _⟩) (fun Da i x H' H2 hD _ p y => by
    obtain ⟨T, z, rfl, nT, rfl, y⟩ := y
    exact hs Da i z T H' _ hD (y xs (hk Da i _ p)) p nT (Same.new nT) upd_same) hd⟩
/-- t[i:], i > 0 -/
theorem r_slT_drop {i : Nat} (h : SqT K H a xs) (h0 : 0 < i) (h1 : i ≤ xs.length) {z : Int} (e : z = (i : Int)) (q : ∀ t H', H t = none → Same H H' → H' t = some (.tup (xs.drop i)) → Q (.ref t) H') : rSlT K (.ref a) (some z) none H Q := by
  subst e
  refine ⟨a, xs, rfl, h, ?_, fun t ht => ?_⟩
  · rintro ⟨e, _⟩
    rw [HT.sIx_nat] at e
    omega
  · have e : cutV xs (some (i : Int)) none = xs.drop i := by
      unfold cutV
      rw [HT.sIx_nat, HT.sIx_none, Nat.min_eq_left h1, List.take_of_length_le (by rw [List.length_drop]; omega)]
    rw [e]
    exact q t _ ht (Same.new ht) upd_same
/-! for over enumerate(tuple) -/
variable {D : Ends} {tw : TS}
def kForET (K : PySem.W.Frag) (g : TG) (tw : TS) (D : Ends) (σ : L2.St) : List V → Hp → Prop := fun ws H1 => ∃ a xs, ws = [.ref a] ∧ SqT K H1 a xs ∧ LoopW (IteT K a) g tw D σ H1
theorem r_forET (h : ta σ H (kForET K g tw D σ)) : tFor (iEnumT K ta) g tw D σ H := h
theorem r_kForET (Pv : Nat → L2.St → Hp → Prop) (hl : SqT K H a xs) (h0 : Pv 0 σ H) (hk : ∀ i σ' H', Pv i σ' H' → SqT K H' a xs)
    (hs : ∀ i x T σ' H1 H', xs[i]? = some x → Pv i σ' H1 → H1 T = none → Same H1 H' → H' T = some (.tup [.int (i : Nat), x]) → g (.ref T) σ' H' fun σ2 H2 => tw { D with nx := Pv (i + 1), ct := Pv (i + 1), bk := D.nx } σ2 H2)
    (hd : ∀ σ' H', Pv xs.length σ' H' → D.nx σ' H') : kForET K g tw D σ [.ref a] H := by
  refine ⟨a, xs, rfl, hl, fun i m σ H => m = xs.length - i ∧ i ≤ xs.length ∧ Pv i σ H, ⟨xs.length, by simp, Nat.zero_le _, h0⟩, ?_⟩
  rintro i m σ H ⟨rfl, hi, p⟩
  have q := hk i σ H p
  by_cases hlt : i < xs.length
  · refine .inr ⟨⟨xs, xs[i], q, by simp [hlt]⟩, Pv (i + 1), fun σ' H' p' => ⟨xs.length - (i + 1), by omega, rfl, hlt, p'⟩, fun x H' y => ?_⟩
    obtain ⟨T, z, rfl, nT, rfl, y⟩ := y
    exact hs i z T σ H _ (y xs q) p nT (Same.new nT) upd_same
  · have e : i = xs.length := by omega
    subst e
    exact .inl ⟨⟨xs, q, Nat.le_refl _⟩, hd σ H p⟩
end
end Wp
set_option Elab.async false
set_option linter.all false
set_option maxRecDepth 100000
set_option maxHeartbeats 4000000
/-! list(range(n)); comprehensions over range(a, b) and over enumerate of any list. -/
namespace Wp
open PySem PySem.Spec PyProof.Rows L2
def kRg1 (Q : VK) : List V → Hp → Prop := fun vs H1 => ∃ (j : Int) (n : Nat), vs = [.int j] ∧ RgC 0 j 1 n ∧ n ≤ 1000000 ∧ ∀ q, H1 q = none → Q (.ref q) (upd H1 q (.lst (rg3 0 1 n)))
def tRg1 (ta : TA) : TE := fun σ H Q => ta σ H (kRg1 Q)
section
variable {X : Cx} {b : Expr} {ta : TA} {p p2 pos pos2 : Pos}
theorem pe_listRg1 (hc : X.calm = true) (hl : Gl X "list") (ml : X.mg "list" = none) (hr : Gl X "range") (mr : X.mg "range" = none) (ha : PA X [b] ta)
    (hs : starEach [b] X.env = [(false, eval b X.env)] := by rfl)
    (na : starEach [.Call (.Name "range" p2) [b] [] pos2] X.env = (false, eval (.Call (.Name "range" p2) [b] [] pos2) X.env) :: starEach [] X.env := by rfl) :
    PE X (.Call (.Name "list" p) [.Call (.Name "range" p2) [b] [] pos2] [] pos) (tRg1 ta) := by
  refine ⟨fun pins s σ H Q I h => ?_⟩
  have inner : wpAny (model X.prog X.w) X.A (eval (.Call (.Name "range" p2) [b] [] pos2) X.env)
      (fun x s' => ∃ (r : Addr) (j : Int) (n : Nat) (t u v : Tok) (H' : Hp), x = .ref r ∧ IsRange s'.heap r 0 j 1 t u v ∧ Inv X pins σ H' s' ∧ RgC 0 j 1 n ∧ n ≤ 1000000 ∧ ∀ q, H' q = none → Q (.ref q) (upd H' q (.lst (rg3 0 1 n)))) X.xe s := by
    refine Call_ (ld_blt I hr mr boot_range (PyProof.Rows.callWith_type1 (thn (ha.run pos2 pins s σ H _ I h) ?_) hs rfl))
    rintro us s1 ⟨vs, H1, I1, r1, j, n, e, rg, hn, q⟩
    subst e
    obtain ⟨c0, c1, c2, c3⟩ := id rg
    match us, r1 with
    | _, .cons r .nil =>
      obtain ⟨t, rfl⟩ := r
      exact call_range_1 ⟨_, j, n, _, t, _, H1, rfl, IsRange.new .., I1.kept fun b o z => Heap.get?_push_of_some _ z, rg, hn, q⟩
  refine Call_ (ld_blt I hl ml boot_list (PyProof.Rows.callWith_type1 (args_cons (thn inner ?_) na) na))
  rintro x s1 ⟨r, j, n, t, u, v, H1, rfl, hr1, I1, ⟨c0, c1, c2, c3⟩, hn, q⟩
  refine args_nil ?_
  refine call_list_range (n := n) (I1.ok.hd hc) hr1 c2 c3 (by omega) fun h' tk acc cap kp hobj items => ?_
  refine ⟨.ref s1.heap.objs.size, upd H1 s1.heap.objs.size (.lst (rg3 0 1 n)), I1.laid kp (Nat.le_refl _) ?_, rfl, q _ (I1.hok.fresh (Nat.le_refl _))⟩
  refine ⟨?_, acc.toList, cap, vals_rg3 items, ?_⟩
  · unfold rg3
    rw [List.length_map, List.length_range]
    exact sz5 hn
  · rw [Array.toArray_toList]
    exact hobj
end
theorem rgc_up {j : Int} (h0 : 0 ≤ j) (h1 : j ≤ 1000000) : RgC 0 j 1 j.toNat := by
  have hs : Builtin.Range.rangeSize 0 j 1 = j := by
    unfold Builtin.Range.rangeSize
    rw [if_pos (by omega)]
    by_cases hx : j > 0
    · rw [if_pos (by omega)]
      rw [Int.ediv_one]
      omega
    · have : j = 0 := by omega
      subst this
      rw [if_neg (by omega)]
  exact ⟨by decide, by decide, small_one (by decide) (by decide) (by omega) (by omega), by rw [hs]; omega⟩
section
variable {K : PySem.W.Frag} {H : Hp} {Q : VK} {a : Addr} {xs : List V} {σ : L2.St} {ta tr : TA} {g : TG} {tt : TT} {te : TE} {vs : List Nat}
theorem r_rg1 (q : ta σ H (kRg1 Q)) : tRg1 ta σ H Q := q
theorem r_kRg1 {j : Int} (h0 : 0 ≤ j) (h1 : j ≤ 1000000) (q : ∀ p H', H p = none → Same H H' → H' p = some (.lst ((List.range j.toNat).map fun k : Nat => V.int (k : Int))) → Q (.ref p) H') : kRg1 Q [.int j] H :=
  ⟨j, j.toNat, rfl, rgc_up h0 h1, by omega, fun p hp => q p _ hp (Same.new hp) (by
    rw [upd_same]
    unfold rg3
    refine congrArg (fun z => some (HO.lst z)) (List.map_congr_left fun k _ => ?_)
    rw [Int.mul_one, Int.zero_add])⟩
def kLcR2 (g : TG) (tt : TT) (te : TE) (vs : List Nat) (σ : L2.St) (Q : VK) : List V → Hp → Prop := fun ws H1 => ∃ i0 j : Int, ws = [.int i0, .int j] ∧ (-(2 ^ 62) ≤ i0 ∧ i0 < 2 ^ 62 ∧ -(2 ^ 62) ≤ j ∧ j < 2 ^ 62) ∧ LcW (Itr i0 (j - i0).toNat) g tt te vs σ Q H1
theorem r_lcR2 (q : tr σ H (kLcR2 g tt te vs σ Q)) : tLc (iRng2 tr) g tt te vs σ H Q := q
theorem r_kLcR2 {lo j : Int} (Pv : Addr → Nat → Hp → Prop) (hj : -1000000000 ≤ lo ∧ lo ≤ 1000000000 ∧ -1000000000 ≤ j ∧ j ≤ 1000000000) (h0 : ∀ Da H', H Da = none → Same H H' → H' Da = some (.lst []) → Pv Da 0 H')
    (hs : ∀ Da (i : Nat) H', H Da = none → lo + (i : Int) < j → Pv Da i H' → g (.int (lo + (i : Int))) (wipe σ vs) H' (kLcG tt te vs σ Da Pv i)) (hd : ∀ Da H', H Da = none → Pv Da (j - lo).toNat H' → Q (.ref Da) H') : kLcR2 g tt te vs σ Q [.int lo, .int j] H :=
  ⟨lo, j, rfl, ⟨by omega, by omega, by omega, by omega⟩, fun Da hD => lc_range (Pv Da) (h0 Da _ hD (Same.new hD) upd_same) (fun i H' hi p => hs Da i H' hD (by omega) p) (fun H' p => hd Da H' hD p)⟩
def kLcEl (K : PySem.W.Frag) (g : TG) (tt : TT) (te : TE) (vs : List Nat) (σ : L2.St) (Q : VK) : List V → Hp → Prop := fun ws H1 => ∃ a xs, ws = [.ref a] ∧ SqL K H1 a xs ∧ LcW (Ite K a) g tt te vs σ Q H1
theorem r_lcEl (h : ta σ H (kLcEl K g tt te vs σ Q)) : tLc (iEnum K ta) g tt te vs σ H Q := h
theorem r_kLcEl (hl : SqL K H a xs) (Pv : Addr → Nat → Hp → Prop) (h0 : ∀ Da H', H Da = none → Same H H' → H' Da = some (.lst []) → Pv Da 0 H') (hk : ∀ Da i H', Pv Da i H' → SqL K H' a xs)
    (hs : ∀ Da i x T H1 H', H Da = none → xs[i]? = some x → Pv Da i H1 → H1 T = none → Same H1 H' → H' T = some (.tup [.int (i : Nat), x]) → g (.ref T) (wipe σ vs) H' (kLcG tt te vs σ Da Pv i)) (hd : ∀ Da H', H Da = none → Pv Da xs.length H' → Q (.ref Da) H') :
    kLcEl K g tt te vs σ Q [.ref a] H :=
  ⟨a, xs, rfl, hl, lc_it xs.length Pv h0 (fun Da i H' _ hi p => ⟨xs, xs[i], hk Da i H' p, by simp [hi]⟩) (fun Da H' _ p => ⟨xs, hk Da _ H' p, Nat.le_refl _⟩) (fun Da i x H' H2 hD _ p y => by
    obtain ⟨T, z, rfl, nT, rfl, y⟩ := y
    exact hs Da i z T H' _ hD (y xs (hk Da i _ p)) p nT (Same.new nT) upd_same) hd⟩
end
end Wp
set_option Elab.async false
set_option linter.all false
set_option maxRecDepth 100000
set_option maxHeartbeats 4000000
/-! More of the draws; the law's own promise. -/
namespace Wp
open PySem PySem.Spec PyProof.Rows L2
/-- ints within bounds -/
def IntsIn (lo hi : Int) : List V → Prop
  | [] => True
  | x :: xs => (∃ z, x = .int z ∧ lo ≤ z ∧ z ≤ hi) ∧ IntsIn lo hi xs
theorem IntsIn.get {lo hi : Int} : ∀ {xs : List V} {i : Nat} {x : V}, IntsIn lo hi xs → xs[i]? = some x → ∃ z, x = .int z ∧ lo ≤ z ∧ z ≤ hi
  | [], _, _, _, h => by simp at h
  | _ :: _, 0, _, a, h => by
    have e := Option.some.inj h
    subst e
    exact a.1
  | _ :: r, i + 1, x, a, h => IntsIn.get (xs := r) (i := i) a.2 h
def AnyI : List V → Prop
  | [] => True
  | x :: xs => (∃ z, x = .int z) ∧ AnyI xs
theorem AnyI.get : ∀ {xs : List V} {i : Nat} {x : V}, AnyI xs → xs[i]? = some x → ∃ z, x = .int z
  | [], _, _, _, h => by simp at h
  | _ :: _, 0, _, a, h => by
    have e := Option.some.inj h
    subst e
    exact a.1
  | _ :: r, i + 1, x, a, h => AnyI.get (xs := r) (i := i) a.2 h
section
variable {K : PySem.W.Frag} {st l c p : Addr} {cs : List Int} {B n : Int} {H H0 H' : Hp} {Q : VK} {E : XK} {xs : List V}
theorem DS.nl (D : DS st l c cs B H) (h : H p = none) : p ≠ l := by
  obtain ⟨zs, _, hl⟩ := D.lg
  exact (ne_of_none hl h).symm
theorem DS.nst (D : DS st l c cs B H) (h : H p = none) : p ≠ st := by
  obtain ⟨r, t, _, _, _, hd⟩ := D.d
  exact (ne_of_none hd h).symm
theorem u_take (D : DS st l c cs B H) (hB : B ≤ 35184372088832) (h1 : 0 < n) (h2 : n < 1073741824) (k : ∀ (i : Int) (H' : Hp), 0 ≤ i → i < n → DS st l c cs (B + 1) H' → Kp st l H H' → Q (.int i) H') : sp_take [.ref st, .int n] H Q E :=
  ⟨st, l, c, cs, B, n, rfl, h1, h2, hB, D, k⟩
theorem u_pick (D : DS st l c cs B H0) (hB : B ≤ 35184372088832) (np : H0 p = none) (e : Same H0 H) (hp : H p = some (.lst xs)) (hne : xs ≠ []) (hlen : xs.length < 1000000)
    (k : ∀ (i : Nat) (x : V) (H' : Hp), xs[i]? = some x → DS st l c cs (B + 1) H' → Kp st l H0 H' → Q x H') : sp_pick [.ref st, .ref p] H Q E :=
  ⟨st, l, c, p, cs, B, xs, rfl, hB, D.keep e, hp, hne, hlen, D.nl np, fun i x H' hx D' k' => k i x H' hx D' ((Kp.of e).trans k')⟩
theorem Kp.tup {ys : List V} (k : Kp st l H H') (D : DS st l c cs B H) (h : H p = some (.tup ys)) : H' p = some (.tup ys) := by
  obtain ⟨zs, _, hl⟩ := D.lg
  obtain ⟨r, t, _, _, _, hd⟩ := D.d
  exact k _ _ h (ne_of h hd (by intro z; cases z)) (ne_of h hl (by intro z; cases z))
end
def spLaw (K : PySem.W.Frag) : Sp := fun vs H Q _ => ∃ (a : Addr) (cs : List Int), vs = [.ref a] ∧ SqL K H a (cs.map V.int) ∧ cs.length ≤ 63 ∧ ∀ H', Q (.bl true) H'
theorem SqL.kp {K : PySem.W.Frag} {st l a : Addr} {H H1 H2 : Hp} {xs : List V} (h : SqL K H a xs) (e : Same H H1) (n1 : H st = none) (n2 : H l = none) (k : Kp st l H1 H2) : SqL K H2 a xs := by
  rcases h with (h | ⟨o, h⟩) | h
  · exact .inl (.inl (k _ _ (e _ _ h) (ne_of_none h n1) (ne_of_none h n2)))
  · exact .inl (.inr ⟨o, k _ _ (e _ _ h) (ne_of_none h n1) (ne_of_none h n2)⟩)
  · exact .inr h
section
variable {st l c p : Addr} {cs : List Int} {B : Int} {H H0 H' : Hp}
theorem DS.nc (D : DS st l c cs B H) (h : H p = none) : p ≠ c := (ne_of_none D.cl h).symm
theorem DS.but {B' : Int} (D : DS st l c cs B H) (D0 : DS st l c cs B' H0) (n : H0 p = none) (b : But p H H') : DS st l c cs B H' := by
  obtain ⟨⟨r, t, hr, h0, h1, h⟩, ⟨zs, hz, h2⟩, h3, n1⟩ := D
  exact ⟨⟨r, t, hr, h0, h1, b _ _ h (D0.nst n).symm⟩, ⟨zs, hz, b _ _ h2 (D0.nl n).symm⟩, b _ _ h3 (D0.nc n).symm, n1⟩
/-- after a draw and a change of what was new -/
theorem Kp.mut {H1 H2 : Hp} (k : Kp st l H H1) (b : But p H1 H2) (n : H p = none) : Kp st l H H2 := fun x o h n1 n2 => b x o (k x o h n1 n2) (ne_of_none h n)
end
end Wp
set_option Elab.async false
set_option linter.all false
set_option maxRecDepth 100000
set_option maxHeartbeats 4000000
namespace Wp
open PySem PySem.Spec PyProof.Rows L2
abbrev s__law_some : Stmt := topS 45
local macro_rules | `(tactic| walk_at "val") => `(tactic| assumption)
local macro_rules | `(tactic| walk_at "rd1") => `(tactic| first
  | with_reducible refine r_seq ?_ | with_reducible refine r_next ?_ | with_reducible refine r_if ?_ | with_reducible refine r_asg ?_ | with_reducible refine r_gname ?_
  | with_reducible refine r_ret ?_ | with_reducible refine r_retN ?_ | with_reducible refine r_drop ?_ | with_reducible refine r_par ?_ | with_reducible refine r_kPar ?_
  | ((with_reducible refine' r_var ?hv ?_); (case hv => exact rfl)) | with_reducible refine r_c ?_ | with_reducible refine r_nil ?_ | with_reducible refine r_cons ?_
  | with_reducible refine r_fn ?_ | with_reducible refine r_cb ?_ | with_reducible refine r_op ?_ | with_reducible refine r_un ?_ | with_reducible refine r_I0 ?_
  | with_reducible refine r_pow5 ?_ | with_reducible refine r_pow6 ?_ | with_reducible refine r_pow7 ?_ | with_reducible refine r_pow9 ?_ | with_reducible refine r_pow18 ?_ | with_reducible refine r_pow20 ?_ | with_reducible refine r_pow30 ?_
  | with_reducible refine r_isN_non ?_ | with_reducible refine r_isN_ref ?_ | with_reducible refine r_isN_int ?_ | with_reducible refine r_isN_str ?_ | with_reducible refine r_isN_bl ?_ | with_reducible refine r_notN_non ?_ | with_reducible refine r_notN_ref ?_ | with_reducible refine r_notN_int ?_ | with_reducible refine r_notN_str ?_ | with_reducible refine r_notN_bl ?_
  | ((with_reducible refine r_I ?hc ?_); (case hc => walk_at "side")) | with_reducible refine r_U ?_
  | with_reducible refine r_eqI ?_ | with_reducible refine r_neI ?_ | with_reducible refine r_eqS ?_ | with_reducible refine r_neS ?_ | with_reducible refine r_eqB ?_ | with_reducible refine r_neB ?_
  | with_reducible refine r_chain ?_ | with_reducible refine r_test ?_ | with_reducible refine r_tB ?_ | with_reducible refine r_kTest ?_ | with_reducible refine r_not ?_
  | with_reducible refine r_and ?_ | with_reducible refine r_or ?_ | with_reducible refine r_tif ?_ | with_reducible refine r_andV ?_ | with_reducible refine r_orV ?_ | with_reducible refine r_notV ?_
  | with_reducible refine r_kAndV ?_ | with_reducible refine r_kOrV ?_ | with_reducible refine r_kNotV ?_
  | with_reducible refine w_T ?_ | with_reducible refine w_F ?_ | with_reducible refine w_NT ?_ | with_reducible refine w_NF ?_
  | with_reducible refine r_tup ?_ | with_reducible refine r_lst ?_ | with_reducible refine r_fld ?_ | with_reducible refine r_prop ?_ | ((with_reducible refine' r_aug ?h1 ?_); (case h1 => exact rfl)) | with_reducible refine r_ipI ?_ | with_reducible refine r_dget ?_ | with_reducible refine r_dput ?_ | with_reducible refine r_bm ?_
  | ((with_reducible refine' r_kDGetS ?h1 ?h2 ?_); (case h1 => assumption); (case h2 => walk_at "val"))
  | ((with_reducible refine' r_kBML ?h1 ?_); (case h1 => assumption))
  | with_reducible refine r_forL ?_ | with_reducible refine r_forR1 ?_ | with_reducible refine r_forR2 ?_ | with_reducible refine r_forT ?_ | with_reducible refine r_lcL ?_ | with_reducible refine r_lcR1 ?_
  | ((with_reducible refine r_kLcG ?hw ?_); (case hw => exact rfl)) | with_reducible refine r_kLcT ?_ | with_reducible refine r_yes ?_
  | with_reducible refine r_pnil ?_ | with_reducible refine r_pcons ?_
  | with_reducible refine r_fnK ?_ | ((with_reducible refine r_kFnK ?hl ?_); (case hl => exact rfl))
  | with_reducible refine r_isi_ii ?_ | with_reducible refine r_isi_ib ?_ | with_reducible refine r_isi_bi ?_ | with_reducible refine r_isi_bb ?_ | with_reducible refine r_isi_ss ?_ | with_reducible refine r_isi_is ?_ | with_reducible refine r_isi_it ?_
  | ((with_reducible refine' r_isi_tt ?h1 ?_); (case h1 => assumption))
  | with_reducible refine r_sfld ?_ | with_reducible refine r_gnil ?_ | with_reducible refine r_gcons ?_
  | ((with_reducible refine' r_gtup ?h1 ?h2 ?_); (case h1 => exact SqT.of (by assumption)); (case h2 => exact rfl))
  | with_reducible refine r_sl ?_ | with_reducible refine r_noPart ?_ | with_reducible refine r_part ?_ | with_reducible refine r_kPart ?_ | with_reducible refine r_m1 ?_ | with_reducible refine r_kM1 ?_ | with_reducible refine r_forS ?_ | with_reducible refine r_lcS ?_ | with_reducible refine r_lcTu ?_ | with_reducible refine r_lcK ?_ | with_reducible refine r_dcL ?_ | with_reducible refine r_dcK ?_ | with_reducible refine r_lc2L ?_ | with_reducible refine r_kLc2TL ?_ | with_reducible refine r_dcEn ?_ | with_reducible refine r_gslc ?_ | with_reducible refine r_lcEn ?_ | with_reducible refine r_lcEl ?_ | with_reducible refine r_lcR2 ?_ | with_reducible refine r_rg1 ?_ | with_reducible refine r_forET ?_ | with_reducible refine r_lenD ?_
  | ((with_reducible refine r_kDcG ?hw ?_); (case hw => exact rfl)) | with_reducible refine r_kDcT ?_
  | with_reducible refine r_fldaug ?_ | with_reducible refine r_daug ?_ | with_reducible refine r_rAdd ?_ | with_reducible refine r_rSub ?_ | with_reducible refine r_ddel ?_ | with_reducible refine r_bmF ?_ | with_reducible refine r_dget2 ?_ | with_reducible refine r_listItems ?_ | with_reducible refine r_bm0 ?_ | with_reducible refine r_lc2E ?_ | ((with_reducible refine r_kLc2G ?hw ?_); (case hw => exact rfl)) | with_reducible refine r_kLc2T ?_ | with_reducible refine r_forE ?_ | with_reducible refine r_orT ?_ | with_reducible refine r_din ?_ | with_reducible refine r_augS ?_ | with_reducible refine r_dnotin ?_ | with_reducible refine r_lcIT ?_ | with_reducible refine r_cont ?_ | with_reducible refine r_meth ?_ | with_reducible refine r_frz ?_ | with_reducible refine r_par3 ?_ | with_reducible refine r_kPar3 ?_ | with_reducible refine r_dz ?_ | with_reducible refine r_revL ?_ | with_reducible refine r_star ?_ | with_reducible refine r_int1 ?_ | with_reducible refine r_int1b ?_ | with_reducible refine r_min2 ?_ | with_reducible refine r_max2 ?_ | with_reducible refine r_gsub ?_)
local macro_rules | `(tactic| walk_at "rd") => `(tactic| repeat walk_at "rd1")
local macro_rules | `(tactic| walk_at "side") => `(tactic| first | assumption | exact Or.inr ⟨by decide, by decide⟩ | exact Or.inl ⟨by decide, by decide⟩ | (constructor <;> omega) | omega | decide | (refine Or.inl ⟨?_, ?_⟩ <;> omega) | (refine Or.inr ⟨?_, ?_⟩ <;> omega) | (refine ⟨?_, ?_, ?_⟩ <;> first | decide | omega))
theorem r_popAtN {l : Addr} {xs : List V} {n : Nat} {z : V} {i : Int} {H : Hp} {Q : VK} (h : H l = some (.lst xs)) (hi : i = (n : Int)) (hn : xs[n]? = some z) (hz : xs.length ≤ 1000000) (k : ∀ H', But l H H' → H' l = some (.lst (xs.eraseIdx n)) → Q z H') : rPopAt (.ref l) [.int i] H Q := by
  subst hi
  have hl := (List.getElem?_eq_some_iff.mp hn).1
  refine ⟨l, xs, (n : Int), n, z, rfl, rfl, h, by omega, by omega, ?_, hn, k _ But.upd upd_same⟩
  simp [seqIndex?]
  omega
theorem pop_perm {α : Type} : ∀ {xs : List α} {n : Nat} (h : n < xs.length), ([xs[n]] ++ xs.eraseIdx n).Perm xs
  | x :: xs, 0, _ => List.Perm.refl _
  | x :: xs, n + 1, h => by
    have hn : n < xs.length := by simpa using h
    have ih := pop_perm (xs := xs) (n := n) hn
    show (xs[n] :: x :: xs.eraseIdx n).Perm (x :: xs)
    exact (List.Perm.swap _ _ _).trans (List.Perm.cons x ih)
/-- some of them, drawn one by one -/
def sp_some : Sp := fun vs H Q _ => ∃ (st l c p : Addr) (cs : List Int) (B n : Int) (xs : List V), vs = [.ref st, .ref p, .int n] ∧ B ≤ 17592186044416 ∧ DS st l c cs B H ∧ H p = some (.lst xs) ∧ xs.length ≤ 100 ∧ 0 ≤ n ∧ n ≤ 100 ∧
  ∀ (t : Addr) (ys rest : List V) (H' : Hp), H t = none → (ys ++ rest).Perm xs → (ys.length : Int) = min (xs.length : Int) n → H' t = some (.lst ys) → DS st l c cs (B + 100) H' → Kp st l H H' → Q (.ref t) H'
section
variable {P : Program} {w : World} {K : PySem.W.Frag} {mg : Str → Option Value} {base : Heap}
theorem ok__law_some {f : Addr} {fd : FuncData} (T : Tx K mg) (F : FnP K "_law_some" s__law_some f fd) (d__law_take : Dn P w K mg base CX0 2 "_law_take" ["_law_state", "_law_size"] sp_take) :
    FnOk P w K mg base CX0 3 f fd ["_law_state", "_law_some_here", "_law_many"] sp_some := by
  have sc : FnScope ["_law_state", "_law_some_here", "_law_many", "_law_left", "_law_found", "_law_k"] ["_law_state", "_law_some_here", "_law_many"] (defScope s__law_some) := ⟨rfl, rfl, rfl, by decide +kernel, rfl, by decide +kernel, by decide +kernel⟩
  refine F.ok sc (by rintro vs H Q E ⟨_, _, _, _, _, _, _, _, rfl, _⟩; rfl) (fun cdv A outer s H vs Q E hr h => ⟨_, PSs.nox ((pss_cons (ps_par (i := 3) (j := 4) (by rfl) sc.nd rfl rfl (by decide) rfl rfl (pa_cons (pe_callTy (c_listK (K := K) rfl) (by rfl) T.b_list (by decide +kernel) (pa_cons (pv 1) pa_nil)) (pa_cons (pe_lst pa_nil) pa_nil)) (by rfl))
      (pss_cons (ps_for PassesOwn.never rfl (pi_range1 (by rfl) T.b_range (pa_cons (pe_callB (c_min2 rfl) (by rfl) T.b_min (by decide +kernel) (pa_cons (pe_callB (c_lenK (K := K) rfl) (by rfl) T.b_len (by decide +kernel) (pa_cons (pv 3) pa_nil)) (pa_cons (pv 2) pa_nil))) pa_nil)) (pg_name (i := 5) sc.nd rfl (by first | exact Or.inl rfl | exact Or.inr rfl)) (pss_one (ps_expr (pe_bmK (K := K) rfl PySem.F.plainAttrs_list PySem.F.slot_list_append PySem.F.type_list_append mt_append (pv 4) (pa_cons (pe_bmK (K := K) rfl PySem.F.plainAttrs_list PySem.F.slot_list_pop PySem.F.type_list_pop mt_popAt (pv 3) (pa_cons (pe_fn d__law_take (hr.mono (by decide)) pass0 (pa_cons (pv 0) (pa_cons (pe_callB (c_lenK (K := K) rfl) (by rfl) T.b_len (by decide +kernel) (pa_cons (pv 3) pa_nil)) pa_nil))) pa_nil)) pa_nil)))))
      (pss_one (ps_ret (pv 4)))))), ?_⟩)
  obtain ⟨st, l, c, p, cs, B, n, xs, rfl, hB, D, hp, hxl, n0, n1, k⟩ := h
  walk_at "rd"
  refine r_listL (SqL.of hp) fun lf H1 nlf e1 hlf => ?_
  walk_at "rd"
  refine r_kLst fun fo H2 nfo e2 hfo => ?_
  walk_at "rd"
  have D2 := (D.keep e1).keep e2
  have a1 : lf ≠ st := D.nst nlf
  have a2 : lf ≠ l := D.nl nlf
  have nfo0 : H fo = none := e1.free nfo
  have b1 : fo ≠ st := D.nst nfo0
  have b2 : fo ≠ l := D.nl nfo0
  have ne : lf ≠ fo := ne_of_none hlf nfo
  refine r_lenL (SqL.of (e2 _ _ hlf)) ?_
  walk_at "rd"
  refine r_kForR1 (fun i σ' H' => ∃ (y : Option V) (ys rest : List V), σ' = [some (.ref st), some (.ref p), some (.int n), some (.ref lf), some (.ref fo), y] ∧ (ys ++ rest).Perm xs ∧ ys.length = i ∧ H' lf = some (.lst rest) ∧ H' fo = some (.lst ys) ∧ DS st l c cs (B + (i : Int)) H' ∧ Kp st l H H')
    (by omega) ⟨_, [], xs, rfl, List.Perm.refl _, rfl, e2 _ _ hlf, hfo, D2.mono (by omega), Kp.of (e1.trans e2)⟩ ?_ ?_
  · rintro i σ' H3 hi ⟨y, ys, rest, rfl, pm, hyl, hr, hf, D3, k3⟩
    have hlen := pm.length_eq
    rw [List.length_append, hyl] at hlen
    have hr0 : 0 < rest.length := by omega
    walk_at "rd"
    refine r_lenL (SqL.of hr) ?_
    walk_at "rd"
    refine u_take D3 (by omega) (by omega) (by omega) fun m H4 m0 m1 D4 k4 => ?_
    have hr4 := k4 _ _ hr a1 a2
    have hf4 := k4 _ _ hf b1 b2
    walk_at "rd"
    have hmi : m.toNat < rest.length := by omega
    refine r_popAtN hr4 (n := m.toNat) (by omega) (List.getElem?_eq_getElem hmi) (by omega) fun H5 b5 h5 => ?_
    walk_at "rd"
    refine r_append (b5 _ _ hf4 ne.symm) (by omega) fun H6 b6 h6 => ?_
    refine ⟨_, ys ++ [rest[m.toNat]], rest.eraseIdx m.toNat, rfl, ?_, by simp [hyl], b6 _ _ h5 ne, h6, ?_, ?_⟩
    · refine List.Perm.trans ?_ pm
      rw [List.append_assoc]
      refine List.Perm.append_left ys ?_
      exact pop_perm hmi
    · have D5 := D4.but D nlf b5
      exact (D5.but D nfo0 b6).mono (by omega)
    · exact ((k3.trans k4).mut b5 nlf).mut b6 nfo0
  · rintro σ' H3 ⟨y, ys, rest, rfl, pm, hyl, hr, hf, D3, k3⟩
    walk_at "rd"
    exact k fo ys rest H3 nfo0 pm (by omega) hf (D3.mono (by omega)) k3
end
end Wp
set_option Elab.async false
set_option linter.all false
set_option maxRecDepth 100000
set_option maxHeartbeats 4000000
namespace Wp
open PySem PySem.Spec PyProof.Rows L2
abbrev s__law_names : Stmt := topS 46
local macro_rules | `(tactic| walk_at "val") => `(tactic| assumption)
local macro_rules | `(tactic| walk_at "rd1") => `(tactic| first
  | with_reducible refine r_seq ?_ | with_reducible refine r_next ?_ | with_reducible refine r_if ?_ | with_reducible refine r_asg ?_ | with_reducible refine r_gname ?_
  | with_reducible refine r_ret ?_ | with_reducible refine r_retN ?_ | with_reducible refine r_drop ?_ | with_reducible refine r_par ?_ | with_reducible refine r_kPar ?_
  | ((with_reducible refine' r_var ?hv ?_); (case hv => exact rfl)) | with_reducible refine r_c ?_ | with_reducible refine r_nil ?_ | with_reducible refine r_cons ?_
  | with_reducible refine r_fn ?_ | with_reducible refine r_cb ?_ | with_reducible refine r_op ?_ | with_reducible refine r_un ?_ | with_reducible refine r_I0 ?_
  | with_reducible refine r_pow5 ?_ | with_reducible refine r_pow6 ?_ | with_reducible refine r_pow7 ?_ | with_reducible refine r_pow9 ?_ | with_reducible refine r_pow18 ?_ | with_reducible refine r_pow20 ?_ | with_reducible refine r_pow30 ?_
  | with_reducible refine r_isN_non ?_ | with_reducible refine r_isN_ref ?_ | with_reducible refine r_isN_int ?_ | with_reducible refine r_isN_str ?_ | with_reducible refine r_isN_bl ?_ | with_reducible refine r_notN_non ?_ | with_reducible refine r_notN_ref ?_ | with_reducible refine r_notN_int ?_ | with_reducible refine r_notN_str ?_ | with_reducible refine r_notN_bl ?_
  | ((with_reducible refine r_I ?hc ?_); (case hc => walk_at "side")) | with_reducible refine r_U ?_
  | with_reducible refine r_eqI ?_ | with_reducible refine r_neI ?_ | with_reducible refine r_eqS ?_ | with_reducible refine r_neS ?_ | with_reducible refine r_eqB ?_ | with_reducible refine r_neB ?_
  | with_reducible refine r_chain ?_ | with_reducible refine r_test ?_ | with_reducible refine r_tB ?_ | with_reducible refine r_kTest ?_ | with_reducible refine r_not ?_
  | with_reducible refine r_and ?_ | with_reducible refine r_or ?_ | with_reducible refine r_tif ?_ | with_reducible refine r_andV ?_ | with_reducible refine r_orV ?_ | with_reducible refine r_notV ?_
  | with_reducible refine r_kAndV ?_ | with_reducible refine r_kOrV ?_ | with_reducible refine r_kNotV ?_
  | with_reducible refine w_T ?_ | with_reducible refine w_F ?_ | with_reducible refine w_NT ?_ | with_reducible refine w_NF ?_
  | with_reducible refine r_tup ?_ | with_reducible refine r_lst ?_ | with_reducible refine r_fld ?_ | with_reducible refine r_prop ?_ | ((with_reducible refine' r_aug ?h1 ?_); (case h1 => exact rfl)) | with_reducible refine r_ipI ?_ | with_reducible refine r_dget ?_ | with_reducible refine r_dput ?_ | with_reducible refine r_bm ?_
  | ((with_reducible refine' r_kDGetS ?h1 ?h2 ?_); (case h1 => assumption); (case h2 => walk_at "val"))
  | ((with_reducible refine' r_kBML ?h1 ?_); (case h1 => assumption))
  | with_reducible refine r_forL ?_ | with_reducible refine r_forR1 ?_ | with_reducible refine r_forR2 ?_ | with_reducible refine r_forT ?_ | with_reducible refine r_lcL ?_ | with_reducible refine r_lcR1 ?_
  | ((with_reducible refine r_kLcG ?hw ?_); (case hw => exact rfl)) | with_reducible refine r_kLcT ?_ | with_reducible refine r_yes ?_
  | with_reducible refine r_pnil ?_ | with_reducible refine r_pcons ?_
  | with_reducible refine r_fnK ?_ | ((with_reducible refine r_kFnK ?hl ?_); (case hl => exact rfl))
  | with_reducible refine r_isi_ii ?_ | with_reducible refine r_isi_ib ?_ | with_reducible refine r_isi_bi ?_ | with_reducible refine r_isi_bb ?_ | with_reducible refine r_isi_ss ?_ | with_reducible refine r_isi_is ?_ | with_reducible refine r_isi_it ?_
  | ((with_reducible refine' r_isi_tt ?h1 ?_); (case h1 => assumption))
  | with_reducible refine r_sfld ?_ | with_reducible refine r_gnil ?_ | with_reducible refine r_gcons ?_
  | ((with_reducible refine' r_gtup ?h1 ?h2 ?_); (case h1 => exact SqT.of (by assumption)); (case h2 => exact rfl))
  | with_reducible refine r_sl ?_ | with_reducible refine r_noPart ?_ | with_reducible refine r_part ?_ | with_reducible refine r_kPart ?_ | with_reducible refine r_m1 ?_ | with_reducible refine r_kM1 ?_ | with_reducible refine r_forS ?_ | with_reducible refine r_lcS ?_ | with_reducible refine r_lcTu ?_ | with_reducible refine r_lcK ?_ | with_reducible refine r_dcL ?_ | with_reducible refine r_dcK ?_ | with_reducible refine r_lc2L ?_ | with_reducible refine r_kLc2TL ?_ | with_reducible refine r_dcEn ?_ | with_reducible refine r_gslc ?_ | with_reducible refine r_lcEn ?_ | with_reducible refine r_lcEl ?_ | with_reducible refine r_lcR2 ?_ | with_reducible refine r_rg1 ?_ | with_reducible refine r_forET ?_ | with_reducible refine r_lenD ?_
  | ((with_reducible refine r_kDcG ?hw ?_); (case hw => exact rfl)) | with_reducible refine r_kDcT ?_
  | with_reducible refine r_fldaug ?_ | with_reducible refine r_daug ?_ | with_reducible refine r_rAdd ?_ | with_reducible refine r_rSub ?_ | with_reducible refine r_ddel ?_ | with_reducible refine r_bmF ?_ | with_reducible refine r_dget2 ?_ | with_reducible refine r_listItems ?_ | with_reducible refine r_bm0 ?_ | with_reducible refine r_lc2E ?_ | ((with_reducible refine r_kLc2G ?hw ?_); (case hw => exact rfl)) | with_reducible refine r_kLc2T ?_ | with_reducible refine r_forE ?_ | with_reducible refine r_orT ?_ | with_reducible refine r_din ?_ | with_reducible refine r_augS ?_ | with_reducible refine r_dnotin ?_ | with_reducible refine r_lcIT ?_ | with_reducible refine r_cont ?_ | with_reducible refine r_meth ?_ | with_reducible refine r_frz ?_ | with_reducible refine r_par3 ?_ | with_reducible refine r_kPar3 ?_ | with_reducible refine r_dz ?_ | with_reducible refine r_revL ?_ | with_reducible refine r_star ?_ | with_reducible refine r_int1 ?_ | with_reducible refine r_int1b ?_ | with_reducible refine r_min2 ?_ | with_reducible refine r_max2 ?_ | with_reducible refine r_gsub ?_)
local macro_rules | `(tactic| walk_at "rd") => `(tactic| repeat walk_at "rd1")
local macro_rules | `(tactic| walk_at "side") => `(tactic| first | assumption | exact Or.inr ⟨by decide, by decide⟩ | exact Or.inl ⟨by decide, by decide⟩ | (constructor <;> omega) | omega | decide | (refine Or.inl ⟨?_, ?_⟩ <;> omega) | (refine Or.inr ⟨?_, ?_⟩ <;> omega) | (refine ⟨?_, ?_, ?_⟩ <;> first | decide | omega))
section
variable {X : Cx} {K : PySem.W.Frag} {H : Hp} {Q : VK} {p : Addr} {z : Str}
def rJoin (K : PySem.W.Frag) : V → List V → Hp → VK → Prop := fun x xs H Q => ∃ a p, ∃ ys : List Str, x = .str a ∧ xs = [.ref p] ∧ (SqL K H p (ys.map V.str) ∨ SqT K H p (ys.map V.str)) ∧ (ys.map (·.length)).sum + ys.length * a.length ≤ 16777216 ∧ Q (.str (Txt.join a ys)) H
theorem pe_joinK {o e : Expr} {to te : TE} {apos pos : Pos} (h : X.K = K) (ho : PE X o to) (he : PE X e te) (hs : starEach [e] X.env = [(false, eval e X.env)] := by rfl) (hbase : attributeBase o "join" X.env (eval o X.env) = eval o X.env := by rfl)
    (hline : (apos.endLine == pos.line) = true := by rfl) : PE X (.Call (.Attribute o "join" apos) [e] [] pos) (tM1 (rJoin K) to te) := by
  subst h
  exact pe_join ho he hs hbase hline
theorem r_joinL {ys : List Str} (h : SqL K H p (ys.map V.str)) (hz : (ys.map (·.length)).sum + ys.length * z.length ≤ 16777216) (q : Q (.str (Txt.join z ys)) H) : rJoin K (.str z) [.ref p] H Q := ⟨z, p, ys, rfl, rfl, .inl h, hz, q⟩
theorem r_addS {a b : Str} (h : a.length + b.length ≤ 1000000) (q : Q (.str (a ++ b)) H) : ∃ i j, V.str a = .str i ∧ V.str b = .str j ∧ i.length + j.length ≤ sizeLine ∧ Q (.str (i ++ j)) H := ⟨a, b, rfl, rfl, sz5 h, q⟩
theorem r_split {a b : Str} (h1 : (b.length == 0) = false) (h2 : a.length + 2 ≤ 1000000) (q : ∀ p H', H p = none → Same H H' → H' p = some (.lst ((Txt.split a b).map V.str)) → Q (.ref p) H') :
    ∃ a' b', V.str a = .str a' ∧ [V.str b] = [.str b'] ∧ (b'.length == 0) = false ∧ a'.length + 2 ≤ sizeLine ∧ rNewStrs (Txt.split a' b') H Q := ⟨a, b, rfl, rfl, h1, sz5 h2, fun p hp => q p _ hp (Same.new hp) upd_same⟩
end
def sp_pickS : Sp := fun vs H Q _ => ∃ (st l c : Addr) (cs : List Int) (B : Int) (z : Str), vs = [.ref st, .str z] ∧ B ≤ 35184372088832 ∧ DS st l c cs B H ∧ 0 < z.length ∧ z.length < 1000 ∧
  ∀ (i : Nat) (d : Nat) (H' : Hp), z.cps.toList[i]? = some d → DS st l c cs (B + 1) H' → Kp st l H H' → Q (.str ⟨#[d]⟩) H'
def sp_names : Sp := fun vs H Q _ => ∃ (st l c : Addr) (cs : List Int) (B n : Int), vs = [.ref st, .int n] ∧ B ≤ 17592186044416 ∧ DS st l c cs B H ∧ 0 ≤ n ∧ n ≤ 20 ∧
  ∀ (t : Addr) (xs : List Str) (H' : Hp), H t = none → (xs.length : Int) = n → NamesOk xs → H' t = some (.lst (xs.map V.str)) → DS st l c cs (B + 11 * n) H' → Kp st l H H' → Q (.ref t) H'
section
variable {P : Program} {w : World} {K : PySem.W.Frag} {mg : Str → Option Value} {base : Heap}
theorem ok__law_pickS {f : Addr} {fd : FuncData} (T : Tx K mg) (F : FnP K "_law_pick" s__law_pick f fd) (d__law_take : Dn P w K mg base CX0 2 "_law_take" ["_law_state", "_law_size"] sp_take) :
    FnOk P w K mg base CX0 3 f fd ["_law_state", "_law_some_here"] sp_pickS := by
  have sc : FnScope ["_law_state", "_law_some_here"] ["_law_state", "_law_some_here"] (defScope s__law_pick) := ⟨rfl, rfl, rfl, by decide +kernel, rfl, by decide +kernel, by decide +kernel⟩
  refine F.ok sc (by rintro vs H Q E ⟨_, _, _, _, _, _, rfl, _⟩; rfl) (fun cdv A outer s H vs Q E hr h => ⟨_, PSs.nox ((pss_one (ps_ret (pe_ix ix_str (pv 1) (pe_fn d__law_take (hr.mono (by decide)) pass0 (pa_cons (pv 0) (pa_cons (pe_callB (c_lenK (K := K) rfl) (by rfl) T.b_len (by decide +kernel) (pa_cons (pv 1) pa_nil)) pa_nil))) (fun _ _ => rfl))))), ?_⟩)
  obtain ⟨st, l, c, cs, B, z, rfl, hB, D, h0, h1, k⟩ := h
  walk_at "rd"
  refine r_lenS (by omega) ?_
  walk_at "rd"
  refine ⟨st, l, c, cs, B, (z.length : Int), rfl, by omega, by omega, hB, D, fun i H' i0 i1 D' k' => ?_⟩
  have hl : z.length = z.cps.toList.length := by simp [Str.length]
  obtain ⟨j, rfl⟩ := Int.eq_ofNat_of_zero_le i0
  have hj : j < z.cps.toList.length := by omega
  have e : z.cps.toList[j]? = some z.cps.toList[j] := List.getElem?_eq_getElem hj
  exact r_ixS (by omega) (atI_nat e) (k j _ H' e D' k')
theorem ok__law_names {f : Addr} {fd : FuncData} (T : Tx K mg) (F : FnP K "_law_names" s__law_names f fd)
    (d__law_take : Dn P w K mg base CX0 2 "_law_take" ["_law_state", "_law_size"] sp_take) (d__law_pick : Dn P w K mg base CX0 3 "_law_pick" ["_law_state", "_law_some_here"] sp_pick) (d__law_pickS : Dn P w K mg base CX0 3 "_law_pick" ["_law_state", "_law_some_here"] sp_pickS) :
    FnOk P w K mg base CX0 4 f fd ["_law_state", "_law_many"] sp_names := by
  have sc : FnScope ["_law_state", "_law_many", "_law_letters", "_law_found", "_law_pool", "_law_k", "_law_label", "_law_near", "_law_j", "_law_letter", "_law_one_of"] ["_law_state", "_law_many"] (defScope s__law_names) := ⟨rfl, rfl, rfl, by decide +kernel, rfl, by decide +kernel, by decide +kernel⟩
  refine F.ok sc (by rintro vs H Q E ⟨_, _, _, _, _, _, rfl, _⟩; rfl) (fun cdv A outer s H vs Q E hr h => ⟨_, PSs.nox ((pss_cons (ps_asg (pe_tup (pa_cons pe_str (pa_cons (pe_lst pa_nil) pa_nil))) (pg_tupK (K := K) (n := 2) rfl rfl (pgs_cons (pg_name (i := 2) sc.nd rfl (by first | exact Or.inl rfl | exact Or.inr rfl)) (pgs_cons (pg_name (i := 3) sc.nd rfl (by first | exact Or.inl rfl | exact Or.inr rfl)) pgs_nil))))
      (pss_cons (ps_set (i := 4) sc.nd rfl (by first | exact Or.inl rfl | exact Or.inr rfl) (pe_split pe_str pe_str))
      (pss_cons (ps_for PassesOwn.never rfl (pi_range1 (by rfl) T.b_range (pa_cons (pv 1) pa_nil)) (pg_name (i := 5) sc.nd rfl (by first | exact Or.inl rfl | exact Or.inr rfl)) (pss_cons (ps_set (i := 6) sc.nd rfl (by first | exact Or.inl rfl | exact Or.inr rfl) (pe_slice sl_str (pe_fn d__law_pick (hr.mono (by decide)) pass0 (pa_cons (pv 0) (pa_cons (pv 4) pa_nil))) po_none (po_some pe_int)))
      (Evl.pss_cut (ps_if (pt_cmpR op_eq (pe_fn d__law_take (hr.mono (by decide)) pass0 (pa_cons (pv 0) (pa_cons pe_int pa_nil))) pe_int (nomark _)) (pss_one (ps_set (i := 6) sc.nd rfl (by first | exact Or.inl rfl | exact Or.inr rfl) (pe_joinK (K := K) rfl pe_str (pe_lc (own := [("_law_j", 8)]) (by rfl) sc.nd (pi_range1 (by rfl) T.b_range (pa_cons (pe_op op_add pe_int (pe_fn d__law_take (hr.mono (by decide)) pass0 (pa_cons (pv 0) (pa_cons pe_int pa_nil)))) pa_nil)) (blkOk_by (own := [("_law_j", 8)]) (N := ["_law_state", "_law_many", "_law_letters", "_law_found", "_law_pool", "_law_k", "_law_label", "_law_near", "_law_j", "_law_letter", "_law_one_of"]) (sc := defScope s__law_names) (by decide +kernel)) (fun _ _ _ _ _ => (pg_name (i := 8) sc.nd rfl (by first | exact Or.inl rfl | exact Or.inr rfl))) (fun _ _ _ _ _ => pts_nil) (fun _ _ _ _ _ => (pe_fn d__law_pickS (hr.mono (by decide)) pass0 (pa_cons (pv 0) (pa_cons (pv 2) pa_nil)))))))) pss_nil)
      (pss_cons (ps_set (i := 7) sc.nd rfl (by first | exact Or.inl rfl | exact Or.inr rfl) (pe_op op_cat (pe_lst (pa_cons (pv 6) pa_nil)) (pe_lc (own := [("_law_letter", 9)]) (by rfl) sc.nd (pi_str (pv 2)) (blkOk_by (own := [("_law_letter", 9)]) (N := ["_law_state", "_law_many", "_law_letters", "_law_found", "_law_pool", "_law_k", "_law_label", "_law_near", "_law_j", "_law_letter", "_law_one_of"]) (sc := defScope s__law_names) (by decide +kernel)) (fun _ _ _ _ _ => (pg_name (i := 9) sc.nd rfl (by first | exact Or.inl rfl | exact Or.inr rfl))) (fun _ _ _ _ _ => pts_nil) (fun _ _ _ _ _ => (pe_op op_add_str (pe_slice sl_str (pv 6) po_none (po_some pe_int)) (pv 9))))))
      (pss_one (ps_expr (pe_bmK (K := K) rfl PySem.F.plainAttrs_list PySem.F.slot_list_append PySem.F.type_list_append mt_append (pv 3) (pa_cons (pe_ix (ix_listK (K := K) rfl) (pe_lc (own := [("_law_one_of", 10)]) (by rfl) sc.nd (pi_listK (K := K) rfl (pv 7)) (blkOk_by (own := [("_law_one_of", 10)]) (N := ["_law_state", "_law_many", "_law_letters", "_law_found", "_law_pool", "_law_k", "_law_label", "_law_near", "_law_j", "_law_letter", "_law_one_of"]) (sc := defScope s__law_names) (by decide +kernel)) (fun _ _ _ _ _ => (pg_name (i := 10) sc.nd rfl (by first | exact Or.inl rfl | exact Or.inr rfl))) (fun _ _ _ _ _ => (pts_one (pt_cmpR (notIn_seqK (K := K) rfl) (pv 10) (pv 3) (by rfl)))) (fun _ _ _ _ _ => (pv 10))) pe_int (fun _ _ => rfl)) pa_nil))))))))
      (pss_one (ps_ret (pv 3))))))), ?_⟩)
  obtain ⟨st, l, c, cs, B, n, rfl, hB, D, n0, n1, k⟩ := h
  walk_at "rd"
  refine r_kLst fun t H1 nt e1 ht => ?_
  walk_at "rd"
  refine r_kTup fun tq H2 ntq e2 htq => ?_
  walk_at "rd"
  refine r_split (by decide +kernel) (by decide +kernel) fun pl H3 npl e3 hpl => ?_
  rw [split_pool] at hpl
  walk_at "rd"
  have D3 : DS st l c cs B H3 := ((D.keep e1).keep e2).keep e3
  have n1t : t ≠ l := D.nl nt
  have n2t : t ≠ st := D.nst nt
  have npl0 : H pl = none := (e1.trans e2).free npl
  have n1p : pl ≠ l := D.nl npl0
  have n2p : pl ≠ st := D.nst npl0
  have ntp : pl ≠ t := by
    rintro rfl
    rw [e2 _ _ ht] at npl
    cases npl
  refine r_kForR1 (fun i σ' H' => ∃ (xs : List Str) (y5 y6 y7 y8 y9 y10 : Option V), σ' = [some (.ref st), some (.int n), some (.str abc), some (.ref t), some (.ref pl), y5, y6, y7, y8, y9, y10] ∧ xs.length = i ∧ NamesOk xs ∧
    H' t = some (.lst (xs.map V.str)) ∧ H' pl = some (.lst (pool.map V.str)) ∧ DS st l c cs (B + 11 * (i : Int)) H' ∧ Kp st l H H') (by omega) ⟨[], _, _, _, _, _, _, rfl, rfl, NamesOk.nil, e3 _ _ (e2 _ _ ht), hpl, D3.mono (by omega), Kp.of ((e1.trans e2).trans e3)⟩ ?_ ?_
  · rintro i σ' H4 hi ⟨xs, y5, y6, y7, y8, y9, y10, rfl, hxl, hN, ht4, hpl4, D4, k4⟩
    walk_at "rd"
    refine ⟨st, l, c, pl, cs, _, _, rfl, by omega, D4, hpl4, by simp [pool], by simp [pool], n1p, fun j x H5 hx D5 k5 => ?_⟩
    obtain ⟨s0, rfl, hs0⟩ := strs_get hx
    have hsm := List.mem_of_getElem? hs0
    obtain ⟨hs1, hs2⟩ := lowB_ok (pool_ok s0 hsm)
    have hs3 := pool_len s0 hsm
    have ok0 := cut8 hs1 hs2
    walk_at "rd"
    refine r_slS (by omega) ?_
    walk_at "rd"
    have ht5 := k5 _ _ ht4 n2t n1t
    have hpl5 := k5 _ _ hpl4 n2p n1p
    refine r_cut (fun σ' H' => ∃ (lab : Str) (y7 y8 y9 y10 : Option V), σ' = [some (.ref st), some (.int n), some (.str abc), some (.ref t), some (.ref pl), some (.int (i : Int)), some (.str lab), y7, y8, y9, y10] ∧ NameOk lab ∧
      H' t = some (.lst (xs.map V.str)) ∧ H' pl = some (.lst (pool.map V.str)) ∧ DS st l c cs (B + 11 * (i : Int) + 11) H' ∧ Kp st l H H') ?_ ?_
    · walk_at "rd"
      refine u_take D5 (by omega) (by decide) (by decide) fun a1 H6 a1l a1h D6 k6 => ?_
      walk_at "rd"
      have ht6 := k6 _ _ ht5 n2t n1t
      have hpl6 := k6 _ _ hpl5 n2p n1p
      refine w_dec (fun hc => ?_) (fun hc => ?_)
      · walk_at "rd"
        refine u_take D6 (by omega) (by decide) (by decide) fun a2 H7 a2l a2h D7 k7 => ?_
        walk_at "rd"
        have ht7 := k7 _ _ ht6 n2t n1t
        have hpl7 := k7 _ _ hpl6 n2p n1p
        refine r_kLcR1 (fun Da j H' => ∃ ds : List Nat, ds.length = j ∧ H' Da = some (.lst (((ds.map fun d => (⟨#[d]⟩ : Str))).map V.str)) ∧ (∀ d ∈ ds, 97 ≤ d ∧ d ≤ 122) ∧ DS st l c cs (B + 11 * (i : Int) + 3 + (j : Int)) H' ∧ Kp st l H7 H') (by omega)
          (fun Da H' _ e h => ⟨[], rfl, h, (by intro d hd; cases hd), (D7.keep e).mono (by omega), Kp.of e⟩) ?_ ?_
        · rintro Da j H' hD hj ⟨ds, hdl, hDa, hds, D', k'⟩
          walk_at "rd"
          refine ⟨st, l, c, cs, _, abc, rfl, by omega, D', by decide +kernel, by decide +kernel, fun i2 d H8 hd D8 k8 => ?_⟩
          refine r_kLcE (k8 _ _ hDa (D7.nst hD) (D7.nl hD)) (by rw [List.length_map, List.length_map]; omega) fun H9 b9 h9 => ⟨ds ++ [d], by simp [hdl], ?_, ?_, (D8.but D7 hD b9).mono (by omega), (k'.trans k8).mut b9 hD⟩
          · rw [List.map_append, List.map_append]
            exact h9
          · intro d' hd'
            rcases List.mem_append.mp hd' with hd' | hd'
            · exact hds d' hd'
            · rw [List.mem_singleton.mp hd']
              exact abc_at hd
        · rintro Da H8 hD ⟨ds, hdl, hDa, hds, D8, k8⟩
          have hdl2 : 1 ≤ ds.length ∧ ds.length ≤ 8 := by omega
          walk_at "rd"
          refine r_joinL (ys := ds.map fun d => (⟨#[d]⟩ : Str)) (SqL.of hDa) ?_ ?_
          · have e0 : (Str.ofString "").length = 0 := by decide +kernel
            have e1 : ∀ l : List Nat, ((l.map fun d => (⟨#[d]⟩ : Str)).map (·.length)).sum = l.length := by
              intro l
              induction l with
              | nil => rfl
              | cons a r ih =>
                simp only [List.map_cons, List.sum_cons, ih, List.length_cons]
                show 1 + r.length = r.length + 1
                omega
            rw [e1, List.length_map]
            show ds.length + ds.length * (Str.ofString "").length ≤ 16777216
            rw [e0]
            omega
          · walk_at "rd"
            have ej : Txt.join (Str.ofString "") (ds.map fun d => (⟨#[d]⟩ : Str)) = ⟨ds.toArray⟩ := join_signs ds
            rw [ej]
            exact ⟨_, _, _, _, _, rfl, join_ok hdl2.1 hdl2.2 hds, k8 _ _ ht7 n2t n1t, k8 _ _ hpl7 n2p n1p, D8.mono (by omega), (((k4.trans k5).trans k6).trans k7).trans k8⟩
      · walk_at "rd"
        exact ⟨_, _, _, _, _, rfl, ok0, ht6, hpl6, D6.mono (by omega), (k4.trans k5).trans k6⟩
    rintro σ' H6 ⟨lab, z7, z8, z9, z10, rfl, okL, ht6, hpl6, D6, k6⟩
    have hl8 := okL.hi
    walk_at "rd"
    refine r_kLst fun q1 H7 nq1 e7 hq1 => ?_
    walk_at "rd"
    refine r_kLcS (fun Da j H' => Same H7 H' ∧ H' Da = some (.lst (((abc.cps.toList.take j).map (near lab)).map V.str))) (fun Da H' _ e h => ⟨e, h⟩) ?_ ?_
    · rintro Da j d H' hD hd ⟨e8, h8⟩
      walk_at "rd"
      refine r_slS (by omega) ?_
      walk_at "rd"
      have hcl : (cutS lab none (some 7)).length = min 7 lab.length := cut_len lab 7
      have h1d : (⟨#[d]⟩ : Str).length = 1 := rfl
      have hj : abc.cps.toList[j]? = some d := by
        rw [Array.getElem?_toList]
        exact hd
      have hjl : j < 26 := by
        have := (List.getElem?_eq_some_iff.mp hj).1
        have e := abc_len
        simp only [Str.length] at e
        simp at this
        omega
      refine r_addS (by omega) ?_
      refine r_kLcE h8 (by rw [List.length_map, List.length_map, List.length_take]; omega) fun H9 b9 h9 => ⟨Same.mut e8 b9 hD, ?_⟩
      rw [take_more hj, List.map_append, List.map_append]
      exact h9
    · rintro Da H8 hD ⟨e8, h8⟩
      have hsz : abc.cps.toList.take abc.cps.size = abc.cps.toList := by
        rw [← Array.length_toList, List.take_length]
      have h8 : H8 Da = some (.lst ((abc.cps.toList.map (near lab)).map V.str)) := by
        have h8' := h8
        rw [hsz] at h8'
        exact h8'
      walk_at "rd"
      have hal : abc.cps.toList.length = 26 := by rw [abc_list]; rfl
      refine r_cat (e8 _ _ hq1) h8 (by rw [List.length_map, List.length_map, hal]; simp) fun q2 H9 nq2 e9 hq2 => ?_
      have hcand : H9 q2 = some (.lst ((lab :: abc.cps.toList.map (near lab)).map V.str)) := hq2
      have e69 : Same H6 H9 := (e7.trans e8).trans e9
      have ht9 := e69 _ _ ht6
      walk_at "rd"
      refine r_kLcL (xs := (lab :: abc.cps.toList.map (near lab)).map V.str) (fun Db j H' => Same H9 H' ∧ H' Db = some (.lst ((((lab :: abc.cps.toList.map (near lab)).take j).filter fun s => !decide (s ∈ xs)).map V.str))) (SqL.of hcand) (fun Db H' _ e h => ⟨e, h⟩) (fun Db j H' ⟨e, _⟩ => SqL.of (e _ _ hcand)) ?_ ?_
      · rintro Db j y H' hD' hy ⟨e10, h10⟩
        obtain ⟨s1, rfl, hs1⟩ := strs_get hy
        walk_at "rd"
        refine r_notInS (SqL.of (e10 _ _ ht9)) ?_
        walk_at "rd"
        refine w_ndec (fun hne => ?_) (fun hin => ?_)
        · walk_at "rd"
          refine r_kLcE h10 ?_ fun H11 b11 h11 => ⟨Same.mut e10 b11 hD', ?_⟩
          · rw [List.length_map]
            have := List.length_filter_le (fun s => !decide (s ∈ xs)) ((lab :: abc.cps.toList.map (near lab)).take j)
            have h2 : ((lab :: abc.cps.toList.map (near lab)).take j).length ≤ 27 := by
              rw [List.length_take, List.length_cons, List.length_map, hal]
              omega
            omega
          · rw [take_more hs1, List.filter_append, List.map_append, List.filter_cons_of_pos (by simp [hne])]
            exact h11
        · refine ⟨e10, ?_⟩
          rw [take_more hs1, List.filter_append, List.map_append, List.filter_cons_of_neg (by simp [hin])]
          simpa using h10
      · rintro Db H10 hD' ⟨e10, h10⟩
        rw [List.length_map, List.take_length] at h10
        obtain ⟨d, hd1, hd2⟩ := near_new (z := lab) (found := xs) (by omega)
        have hmem : near lab d ∈ (lab :: abc.cps.toList.map (near lab)).filter fun s => !decide (s ∈ xs) :=
          List.mem_filter.mpr ⟨List.mem_cons_of_mem _ (List.mem_map.mpr ⟨d, hd1, rfl⟩), by simp [hd2]⟩
        obtain ⟨x0, r0, hF⟩ : ∃ x0 r0, (lab :: abc.cps.toList.map (near lab)).filter (fun s => !decide (s ∈ xs)) = x0 :: r0 := by
          cases hq : (lab :: abc.cps.toList.map (near lab)).filter fun s => !decide (s ∈ xs) with
          | nil =>
            rw [hq] at hmem
            cases hmem
          | cons a b => exact ⟨a, b, rfl⟩
        have hx0 : x0 ∈ (lab :: abc.cps.toList.map (near lab)).filter fun s => !decide (s ∈ xs) := by
          rw [hF]
          exact List.mem_cons_self ..
        obtain ⟨hx1, hx2⟩ := List.mem_filter.mp hx0
        have hx3 : x0 ∉ xs := by simpa using hx2
        have hx4 : NameOk x0 := by
          rcases List.mem_cons.mp hx1 with rfl | hx1
          · exact okL
          · obtain ⟨d', hd', rfl⟩ := List.mem_map.mp hx1
            exact near_ok okL.low (abc_mem.mp hd')
        rw [hF] at h10
        walk_at "rd"
        refine r_ixL (SqL.of h10) (at_get (n := 0) rfl rfl) ?_
        walk_at "rd"
        have ht10 := e10 _ _ ht9
        refine r_append ht10 (by rw [List.length_map]; omega) fun H11 b11 h11 => ?_
        have D11 : DS st l c cs (B + 11 * (i : Int) + 11) H11 := ((D6.keep e69).keep e10).but D nt b11
        have k11 : Kp st l H H11 := (k6.trans (Kp.of (e69.trans e10))).mut b11 nt
        refine ⟨xs ++ [x0], _, _, _, _, _, _, rfl, by simp [hxl], hN.snoc hx4 hx3, ?_, b11 _ _ (e10 _ _ (e69 _ _ hpl6)) ntp, D11.mono (by omega), k11⟩
        rw [List.map_append]
        exact h11
  · rintro σ' H4 ⟨xs, y5, y6, y7, y8, y9, y10, rfl, hxl, hN, ht4, hpl4, D4, k4⟩
    walk_at "rd"
    exact k t xs H4 nt (by omega) hN ht4 (D4.mono (by omega)) k4
end
end Wp
set_option Elab.async false
set_option linter.all false
set_option maxRecDepth 100000
set_option maxHeartbeats 4000000
/-! The law's own model of a book: a dict. -/
namespace Wp
open PySem PySem.Spec PyProof.Rows L2
def mk4 (a k d m : V) : List (Key × V) := [(Sum.inr ("lengths" : Str), a), (Sum.inr ("kinds" : Str), k), (Sum.inr ("laid" : Str), d), (Sum.inr ("memory" : Str), m)]
def mk5 (a k d m u : V) : List (Key × V) := mk4 a k d m ++ [(Sum.inr ("due" : Str), u)]
def mkv (a k d m u b : V) : List (Key × V) := [(Sum.inr ("lengths" : Str), a), (Sum.inr ("kinds" : Str), k), (Sum.inr ("laid" : Str), d), (Sum.inr ("memory" : Str), m), (Sum.inr ("due" : Str), u), (Sum.inr ("begins" : Str), b)]
section
variable {a k d m u b x : V}
theorem mk4_nd : ((mk4 a k d m).map (·.1)).Nodup := (by decide +kernel : ([Sum.inr ("lengths" : Str), Sum.inr ("kinds" : Str), Sum.inr ("laid" : Str), Sum.inr ("memory" : Str)] : List Key).Nodup)
theorem mp5 : putK (mk4 a k d m) (Sum.inr ("due" : Str)) u = mk5 a k d m u := by
  refine putK_new _ ?_
  unfold mk4
  rw [valV_neg (kne (by decide +kernel)), valV_neg (kne (by decide +kernel)), valV_neg (kne (by decide +kernel)), valV_neg (kne (by decide +kernel))]
  rfl
theorem mp6 : putK (mk5 a k d m u) (Sum.inr ("begins" : Str)) b = mkv a k d m u b := by
  refine putK_new _ ?_
  show valV [(Sum.inr ("lengths" : Str), a), (Sum.inr ("kinds" : Str), k), (Sum.inr ("laid" : Str), d), (Sum.inr ("memory" : Str), m), (Sum.inr ("due" : Str), u)] _ = none
  rw [valV_neg (kne (by decide +kernel)), valV_neg (kne (by decide +kernel)), valV_neg (kne (by decide +kernel)), valV_neg (kne (by decide +kernel)), valV_neg (kne (by decide +kernel))]
  rfl
theorem mv1 : valV (mkv a k d m u b) (Sum.inr ("lengths" : Str)) = some a := by
  unfold mkv
  rw [valV_pos rfl]
theorem mv2 : valV (mkv a k d m u b) (Sum.inr ("kinds" : Str)) = some k := by
  unfold mkv
  rw [valV_neg (kne (by decide +kernel)), valV_pos rfl]
theorem mv3 : valV (mkv a k d m u b) (Sum.inr ("laid" : Str)) = some d := by
  unfold mkv
  rw [valV_neg (kne (by decide +kernel)), valV_neg (kne (by decide +kernel)), valV_pos rfl]
theorem mv4 : valV (mkv a k d m u b) (Sum.inr ("memory" : Str)) = some m := by
  unfold mkv
  rw [valV_neg (kne (by decide +kernel)), valV_neg (kne (by decide +kernel)), valV_neg (kne (by decide +kernel)), valV_pos rfl]
theorem mv5 : valV (mkv a k d m u b) (Sum.inr ("due" : Str)) = some u := by
  unfold mkv
  rw [valV_neg (kne (by decide +kernel)), valV_neg (kne (by decide +kernel)), valV_neg (kne (by decide +kernel)), valV_neg (kne (by decide +kernel)), valV_pos rfl]
theorem mv6 : valV (mkv a k d m u b) (Sum.inr ("begins" : Str)) = some b := by
  unfold mkv
  rw [valV_neg (kne (by decide +kernel)), valV_neg (kne (by decide +kernel)), valV_neg (kne (by decide +kernel)), valV_neg (kne (by decide +kernel)), valV_neg (kne (by decide +kernel)), valV_pos rfl]
theorem mput {q : Key} (h : (valV (mkv a k d m u b) q).isSome = true) : putK (mkv a k d m u b) q x = (mkv a k d m u b).map (fun kv => if kv.1 = q then (kv.1, x) else kv) := by
  unfold putK
  rw [if_pos (by rw [valV_any]; exact h)]
theorem mq1 : putK (mkv a k d m u b) (Sum.inr ("lengths" : Str)) x = mkv x k d m u b := by
  rw [mput (by rw [mv1]; rfl)]
  simp only [mkv, List.map_cons, List.map_nil, if_pos trivial, if_neg (kne (x := "kinds") (y := "lengths") (by decide +kernel)), if_neg (kne (x := "laid") (y := "lengths") (by decide +kernel)), if_neg (kne (x := "memory") (y := "lengths") (by decide +kernel)), if_neg (kne (x := "due") (y := "lengths") (by decide +kernel)), if_neg (kne (x := "begins") (y := "lengths") (by decide +kernel))]
theorem mq2 : putK (mkv a k d m u b) (Sum.inr ("kinds" : Str)) x = mkv a x d m u b := by
  rw [mput (by rw [mv2]; rfl)]
  simp only [mkv, List.map_cons, List.map_nil, if_pos trivial, if_neg (kne (x := "lengths") (y := "kinds") (by decide +kernel)), if_neg (kne (x := "laid") (y := "kinds") (by decide +kernel)), if_neg (kne (x := "memory") (y := "kinds") (by decide +kernel)), if_neg (kne (x := "due") (y := "kinds") (by decide +kernel)), if_neg (kne (x := "begins") (y := "kinds") (by decide +kernel))]
theorem mq3 : putK (mkv a k d m u b) (Sum.inr ("laid" : Str)) x = mkv a k x m u b := by
  rw [mput (by rw [mv3]; rfl)]
  simp only [mkv, List.map_cons, List.map_nil, if_pos trivial, if_neg (kne (x := "lengths") (y := "laid") (by decide +kernel)), if_neg (kne (x := "kinds") (y := "laid") (by decide +kernel)), if_neg (kne (x := "memory") (y := "laid") (by decide +kernel)), if_neg (kne (x := "due") (y := "laid") (by decide +kernel)), if_neg (kne (x := "begins") (y := "laid") (by decide +kernel))]
theorem mq4 : putK (mkv a k d m u b) (Sum.inr ("memory" : Str)) x = mkv a k d x u b := by
  rw [mput (by rw [mv4]; rfl)]
  simp only [mkv, List.map_cons, List.map_nil, if_pos trivial, if_neg (kne (x := "lengths") (y := "memory") (by decide +kernel)), if_neg (kne (x := "kinds") (y := "memory") (by decide +kernel)), if_neg (kne (x := "laid") (y := "memory") (by decide +kernel)), if_neg (kne (x := "due") (y := "memory") (by decide +kernel)), if_neg (kne (x := "begins") (y := "memory") (by decide +kernel))]
theorem mq5 : putK (mkv a k d m u b) (Sum.inr ("due" : Str)) x = mkv a k d m x b := by
  rw [mput (by rw [mv5]; rfl)]
  simp only [mkv, List.map_cons, List.map_nil, if_pos trivial, if_neg (kne (x := "lengths") (y := "due") (by decide +kernel)), if_neg (kne (x := "kinds") (y := "due") (by decide +kernel)), if_neg (kne (x := "laid") (y := "due") (by decide +kernel)), if_neg (kne (x := "memory") (y := "due") (by decide +kernel)), if_neg (kne (x := "begins") (y := "due") (by decide +kernel))]
theorem mq6 : putK (mkv a k d m u b) (Sum.inr ("begins" : Str)) x = mkv a k d m u x := by
  rw [mput (by rw [mv6]; rfl)]
  simp only [mkv, List.map_cons, List.map_nil, if_pos trivial, if_neg (kne (x := "lengths") (y := "begins") (by decide +kernel)), if_neg (kne (x := "kinds") (y := "begins") (by decide +kernel)), if_neg (kne (x := "laid") (y := "begins") (by decide +kernel)), if_neg (kne (x := "memory") (y := "begins") (by decide +kernel)), if_neg (kne (x := "due") (y := "begins") (by decide +kernel))]
theorem mkv_len : (mkv a k d m u b).length = 6 := rfl
end
/-- a model stands at p, its parts at a, kd and lv -/
structure MdlIn (lg : Addr) (H : Hp) (p : Addr) (B : Bk) (ad kd : Addr) (lv : V) (kvs : List (Key × V)) : Prop where
  i : H p = some (.dK (mkv (.ref ad) (.ref kd) lv (.int B.mem) (.int B.due) (.str B.beg)))
  l : H ad = some (.lst (B.ls.map V.int))
  n : ad ≠ lg
  k : H kd = some (.dK kvs)
  a : KAt H kvs B.ks
  d : LaidV H B.laid lv
def Mdl (l : Addr) (H : Hp) (p : Addr) (B : Bk) : Prop := ∃ a kd lv kvs, MdlIn l H p B a kd lv kvs
theorem KAt.all {H : Hp} {kvs : List (Key × V)} {ks : List (Str × Int × Bool)} (h : KAt H kvs ks) : ∀ kv ∈ kvs, ∃ t, kv.2 = .ref t := by
  induction h with
  | nil => intro kv h; cases h
  | cons _ _ ih =>
    intro kv h
    rcases List.mem_cons.mp h with rfl | h
    · exact ⟨_, rfl⟩
    · exact ih kv h
section
variable {st l c p a kd : Addr} {cs : List Int} {n : Int} {H H' : Hp} {B : Bk} {lv : V} {kvs : List (Key × V)} {ks : List (Str × Int × Bool)}
theorem KAt.nst (h : KAt H kvs ks) (hk : H kd = some (.dK kvs)) (D : DS st l c cs n H) : kd ≠ st := by
  rintro rfl
  obtain ⟨r, t, _, _, _, hd⟩ := D.d
  rw [hd] at hk
  injection hk with hk
  injection hk with hk
  subst hk
  obtain ⟨t', h⟩ := h.all (Sum.inr ("rest" : Str), .int r) (by simp [dkv])
  cases h
theorem DS.dne {kvs : List (Key × V)} (D : DS st l c cs n H) (hk : H kd = some (.dK kvs)) (h : kvs.length ≠ 4) : kd ≠ st := by
  rintro rfl
  obtain ⟨r, t, _, _, _, hd⟩ := D.d
  rw [hd] at hk
  injection hk with hk
  injection hk with hk
  subst hk
  exact h rfl
theorem DS.nld {o : HO} (D : DS st l c cs n H) (hk : H kd = some o) (h : ∀ xs, o ≠ .lst xs) : kd ≠ l := by
  rintro rfl
  obtain ⟨zs, _, hd⟩ := D.lg
  rw [hd] at hk
  injection hk with hk
  exact h _ hk.symm
theorem Kp.frzs (k : Kp st l H H') (D : DS st l c cs n H) : ∀ t o xs, H t = some (.frz o (.tup xs)) → H' t = some (.frz o (.tup xs)) := fun t o xs h => by
  obtain ⟨zs, _, hl⟩ := D.lg
  obtain ⟨r, t', _, _, _, hd⟩ := D.d
  exact k _ _ h (ne_of h hd (by intro z; cases z)) (ne_of h hl (by intro z; cases z))
theorem Kp.tups (k : Kp st l H H') (D : DS st l c cs n H) : ∀ t xs, H t = some (.tup xs) → H' t = some (.tup xs) := fun t xs h => k.tup D h
theorem MdlIn.kp (h : MdlIn l H p B a kd lv kvs) (k : Kp st l H H') (D : DS st l c cs n H) : MdlIn l H' p B a kd lv kvs := by
  obtain ⟨h1, h2, h3, h4, h5, h6⟩ := h
  refine ⟨k _ _ h1 (D.dne h1 (by rw [mkv_len]; decide)) (D.nld h1 fun xs z => by cases z), k _ _ h2 ?_ h3, h3, k _ _ h4 (h5.nst h4 D) (D.nld h4 fun xs z => by cases z), h5.keep (k.tups D), h6.keep (k.frzs D)⟩
  rintro rfl
  obtain ⟨r, t, _, _, _, hd⟩ := D.d
  rw [hd] at h2
  cases h2
theorem Mdl.kp (h : Mdl l H p B) (k : Kp st l H H') (D : DS st l c cs n H) : Mdl l H' p B := by
  obtain ⟨a, kd, lv, kvs, h⟩ := h
  exact ⟨a, kd, lv, kvs, h.kp k D⟩
theorem MdlIn.keep (h : MdlIn l H p B a kd lv kvs) (e : Same H H') : MdlIn l H' p B a kd lv kvs :=
  ⟨e _ _ h.i, e _ _ h.l, h.n, e _ _ h.k, h.a.keepT e, h.d.keep fun t o xs ht => e _ _ ht⟩
theorem Mdl.keep (h : Mdl l H p B) (e : Same H H') : Mdl l H' p B := by
  obtain ⟨a, kd, lv, kvs, h⟩ := h
  exact ⟨a, kd, lv, kvs, h.keep e⟩
theorem BookAt.kp {C : Addr} (h : BookAt C H p B) (k : Kp st l H H') (D : DS st l c cs n H) : BookAt C H' p B := by
  obtain ⟨dx, tl, kd, lv, kvs, h1, h2, h3, h4, h5⟩ := h
  obtain ⟨r, t, _, _, _, hd⟩ := D.d
  exact ⟨dx, tl, kd, lv, kvs, k _ _ h1 (ne_of h1 hd (by intro z; cases z)) (D.nld h1 fun xs z => by cases z), k.tup D h2, k _ _ h3 (h4.nst h3 D) (D.nld h3 fun xs z => by cases z), h4.keep (k.tups D), h5.keep (k.frzs D)⟩
end
end Wp
set_option Elab.async false
set_option linter.all false
set_option maxRecDepth 100000
set_option maxHeartbeats 4000000
namespace Wp
open PySem PySem.Spec PyProof.Rows L2
abbrev s__law_model : Stmt := topS 47
abbrev s__law_made : Stmt := topS 48
local macro_rules | `(tactic| walk_at "val") => `(tactic| assumption)
local macro_rules | `(tactic| walk_at "rd1") => `(tactic| first
  | with_reducible refine r_seq ?_ | with_reducible refine r_next ?_ | with_reducible refine r_if ?_ | with_reducible refine r_asg ?_ | with_reducible refine r_gname ?_
  | with_reducible refine r_ret ?_ | with_reducible refine r_retN ?_ | with_reducible refine r_drop ?_ | with_reducible refine r_par ?_ | with_reducible refine r_kPar ?_
  | ((with_reducible refine' r_var ?hv ?_); (case hv => exact rfl)) | with_reducible refine r_c ?_ | with_reducible refine r_nil ?_ | with_reducible refine r_cons ?_
  | with_reducible refine r_fn ?_ | with_reducible refine r_cb ?_ | with_reducible refine r_op ?_ | with_reducible refine r_un ?_ | with_reducible refine r_I0 ?_
  | with_reducible refine r_pow5 ?_ | with_reducible refine r_pow6 ?_ | with_reducible refine r_pow7 ?_ | with_reducible refine r_pow9 ?_ | with_reducible refine r_pow18 ?_ | with_reducible refine r_pow20 ?_ | with_reducible refine r_pow30 ?_
  | with_reducible refine r_isN_non ?_ | with_reducible refine r_isN_ref ?_ | with_reducible refine r_isN_int ?_ | with_reducible refine r_isN_str ?_ | with_reducible refine r_isN_bl ?_ | with_reducible refine r_notN_non ?_ | with_reducible refine r_notN_ref ?_ | with_reducible refine r_notN_int ?_ | with_reducible refine r_notN_str ?_ | with_reducible refine r_notN_bl ?_
  | ((with_reducible refine r_I ?hc ?_); (case hc => walk_at "side")) | with_reducible refine r_U ?_
  | with_reducible refine r_eqI ?_ | with_reducible refine r_neI ?_ | with_reducible refine r_eqS ?_ | with_reducible refine r_neS ?_ | with_reducible refine r_eqB ?_ | with_reducible refine r_neB ?_
  | with_reducible refine r_chain ?_ | with_reducible refine r_test ?_ | with_reducible refine r_tB ?_ | with_reducible refine r_kTest ?_ | with_reducible refine r_not ?_
  | with_reducible refine r_and ?_ | with_reducible refine r_or ?_ | with_reducible refine r_tif ?_ | with_reducible refine r_andV ?_ | with_reducible refine r_orV ?_ | with_reducible refine r_notV ?_
  | with_reducible refine r_kAndV ?_ | with_reducible refine r_kOrV ?_ | with_reducible refine r_kNotV ?_
  | with_reducible refine w_T ?_ | with_reducible refine w_F ?_ | with_reducible refine w_NT ?_ | with_reducible refine w_NF ?_
  | with_reducible refine r_tup ?_ | with_reducible refine r_lst ?_ | with_reducible refine r_fld ?_ | with_reducible refine r_prop ?_ | ((with_reducible refine' r_aug ?h1 ?_); (case h1 => exact rfl)) | with_reducible refine r_ipI ?_ | with_reducible refine r_dget ?_ | with_reducible refine r_dput ?_ | with_reducible refine r_bm ?_
  | ((with_reducible refine' r_kDGetS ?h1 ?h2 ?_); (case h1 => assumption); (case h2 => walk_at "val"))
  | ((with_reducible refine' r_kBML ?h1 ?_); (case h1 => assumption))
  | with_reducible refine r_forL ?_ | with_reducible refine r_forR1 ?_ | with_reducible refine r_forR2 ?_ | with_reducible refine r_forT ?_ | with_reducible refine r_lcL ?_ | with_reducible refine r_lcR1 ?_
  | ((with_reducible refine r_kLcG ?hw ?_); (case hw => exact rfl)) | with_reducible refine r_kLcT ?_ | with_reducible refine r_yes ?_
  | with_reducible refine r_pnil ?_ | with_reducible refine r_pcons ?_
  | with_reducible refine r_fnK ?_ | ((with_reducible refine r_kFnK ?hl ?_); (case hl => exact rfl))
  | with_reducible refine r_isi_ii ?_ | with_reducible refine r_isi_ib ?_ | with_reducible refine r_isi_bi ?_ | with_reducible refine r_isi_bb ?_ | with_reducible refine r_isi_ss ?_ | with_reducible refine r_isi_is ?_ | with_reducible refine r_isi_it ?_
  | ((with_reducible refine' r_isi_tt ?h1 ?_); (case h1 => assumption))
  | with_reducible refine r_sfld ?_ | with_reducible refine r_gnil ?_ | with_reducible refine r_gcons ?_
  | ((with_reducible refine' r_gtup ?h1 ?h2 ?_); (case h1 => exact SqT.of (by assumption)); (case h2 => exact rfl))
  | with_reducible refine r_sl ?_ | with_reducible refine r_noPart ?_ | with_reducible refine r_part ?_ | with_reducible refine r_kPart ?_ | with_reducible refine r_m1 ?_ | with_reducible refine r_kM1 ?_ | with_reducible refine r_forS ?_ | with_reducible refine r_lcS ?_ | with_reducible refine r_lcTu ?_ | with_reducible refine r_lcK ?_ | with_reducible refine r_dcL ?_ | with_reducible refine r_dcK ?_ | with_reducible refine r_lc2L ?_ | with_reducible refine r_kLc2TL ?_ | with_reducible refine r_dcEn ?_ | with_reducible refine r_gslc ?_ | with_reducible refine r_lcEn ?_ | with_reducible refine r_lcEl ?_ | with_reducible refine r_lcR2 ?_ | with_reducible refine r_rg1 ?_ | with_reducible refine r_forET ?_ | with_reducible refine r_lenD ?_
  | ((with_reducible refine r_kDcG ?hw ?_); (case hw => exact rfl)) | with_reducible refine r_kDcT ?_
  | with_reducible refine r_fldaug ?_ | with_reducible refine r_daug ?_ | with_reducible refine r_rAdd ?_ | with_reducible refine r_rSub ?_ | with_reducible refine r_ddel ?_ | with_reducible refine r_bmF ?_ | with_reducible refine r_dget2 ?_ | with_reducible refine r_listItems ?_ | with_reducible refine r_bm0 ?_ | with_reducible refine r_lc2E ?_ | ((with_reducible refine r_kLc2G ?hw ?_); (case hw => exact rfl)) | with_reducible refine r_kLc2T ?_ | with_reducible refine r_forE ?_ | with_reducible refine r_orT ?_ | with_reducible refine r_din ?_ | with_reducible refine r_augS ?_ | with_reducible refine r_dnotin ?_ | with_reducible refine r_lcIT ?_ | with_reducible refine r_cont ?_ | with_reducible refine r_meth ?_ | with_reducible refine r_frz ?_ | with_reducible refine r_par3 ?_ | with_reducible refine r_kPar3 ?_ | with_reducible refine r_dz ?_ | with_reducible refine r_revL ?_ | with_reducible refine r_star ?_ | with_reducible refine r_int1 ?_ | with_reducible refine r_int1b ?_ | with_reducible refine r_min2 ?_ | with_reducible refine r_max2 ?_ | with_reducible refine r_gsub ?_)
local macro_rules | `(tactic| walk_at "rd") => `(tactic| repeat walk_at "rd1")
local macro_rules | `(tactic| walk_at "side") => `(tactic| first | assumption | exact Or.inr ⟨by decide, by decide⟩ | exact Or.inl ⟨by decide, by decide⟩ | (constructor <;> omega) | omega | decide | (refine Or.inl ⟨?_, ?_⟩ <;> omega) | (refine Or.inr ⟨?_, ?_⟩ <;> omega) | (refine ⟨?_, ?_, ?_⟩ <;> first | decide | omega))
local macro_rules | `(tactic| walk_at "val") => `(tactic| first | exact mv1 | exact mv2 | exact mv3 | exact mv4 | exact mv5 | exact mv6)
theorem r_dnewK {σ : L2.St} {H : Hp} {Q : VK} (q : ∀ p H', H p = none → Same H H' → H' p = some (.dK []) → Q (.ref p) H') : tDNewK σ H Q := fun p hp => q p _ hp (Same.new hp) upd_same
theorem r_minL {K : PySem.W.Frag} {H : Hp} {p : Addr} {Q : VK} {ns : List Int} (h : SqL K H p (ns.map V.int)) (h0 : 0 < ns.length) (k : ∀ m, m ∈ ns → (∀ y ∈ ns, m ≤ y) → Q (.int m) H) : rMin K [.ref p] H Q := ⟨p, ns, rfl, h, h0, k⟩
def sp_model : Sp := fun vs H Q _ => ∃ (st l c : Addr) (cs : List Int) (n many : Int) (il : Bool), vs = [.ref st, .int many, .bl il] ∧ n ≤ 8796093022208 ∧ DS st l c cs n H ∧ 1 ≤ many ∧ many ≤ 6 ∧
  ∀ p B H', H p = none → B.Ok → B.LaidOk → Mdl l H' p B → DS st l c cs (n + 200) H' → Kp st l H H' → Q (.ref p) H'
def sp_made (C : Addr) : Sp := fun vs H Q _ => ∃ (l p : Addr) (B : Bk), vs = [.ref p] ∧ B.Ok ∧ B.LaidOk ∧ Mdl l H p B ∧
  ∀ q H' ks, H q = none → Same H H' → ks.Perm B.ks → sortedS (ks.map (·.1)) = true → BookAt C H' q { B with ks := ks } → Q (.ref q) H'
section
variable {P : Program} {w : World} {K : PySem.W.Frag} {mg : Str → Option Value} {base : Heap}
theorem ok__law_made {f C : Addr} {fd : FuncData} (T : Tx K mg) (F : FnP K "_law_made" s__law_made f fd) (mk_Book : Dc P w K mg base CX0 5 "Book" (sp_Book C)) :
    FnOk P w K mg base CX0 7 f fd ["_law_model_here"] (sp_made C) := by
  have sc : FnScope ["_law_model_here", "_law_start"] ["_law_model_here"] (defScope s__law_made) := ⟨rfl, rfl, rfl, by decide +kernel, rfl, by decide +kernel, by decide +kernel⟩
  refine F.ok sc (by rintro vs H Q E ⟨_, _, _, rfl, _⟩; rfl) (fun cdv A outer s H vs Q E hr h => ⟨_, PSs.nox ((pss_cons (ps_set (i := 1) sc.nd rfl (by first | exact Or.inl rfl | exact Or.inr rfl) (pe_lst (pa_cons (pe_dget (hu_of hr) (pv 0) pe_str (fun _ _ => rfl)) (pa_cons (pe_dget (hu_of hr) (pv 0) pe_str (fun _ _ => rfl)) (pa_cons (pe_dget (hu_of hr) (pv 0) pe_str (fun _ _ => rfl)) pa_nil)))))
      (pss_one (ps_ret (pe_mk mk_Book (hr.mono (by decide)) pass0 (pa_cons (pe_ix (ix_listK (K := K) rfl) (pv 1) pe_int (fun _ _ => rfl)) (pa_cons (pe_ix (ix_listK (K := K) rfl) (pv 1) pe_int (fun _ _ => rfl)) (pa_cons (pe_ix (ix_listK (K := K) rfl) (pv 1) pe_int (fun _ _ => rfl)) (pa_cons (pe_dget (hu_of hr) (pv 0) pe_str (fun _ _ => rfl)) (pa_cons (pe_dget (hu_of hr) (pv 0) pe_str (fun _ _ => rfl)) (pa_cons (pe_dget (hu_of hr) (pv 0) pe_str (fun _ _ => rfl)) pa_nil))))))))))), ?_⟩)
  obtain ⟨l, p, B, rfl, ok, lok, ⟨a, kd, lv, kvs, hM⟩, k⟩ := h
  walk_at "rd"
  refine r_kDGetS hM.i mv1 ?_
  walk_at "rd"
  refine r_kDGetS hM.i mv5 ?_
  walk_at "rd"
  refine r_kDGetS hM.i mv2 ?_
  walk_at "rd"
  refine r_kLst fun t H1 nt e1 ht => ?_
  have hM1 := hM.keep e1
  walk_at "rd"
  refine r_ixL (SqL.of ht) (at_get (n := 0) rfl rfl) ?_
  walk_at "rd"
  refine r_ixL (SqL.of ht) (at_get (n := 1) rfl rfl) ?_
  walk_at "rd"
  refine r_ixL (SqL.of ht) (at_get (n := 2) rfl rfl) ?_
  walk_at "rd"
  refine r_kDGetS hM1.i mv4 ?_
  walk_at "rd"
  refine r_kDGetS hM1.i mv6 ?_
  walk_at "rd"
  refine r_kDGetS hM1.i mv3 ?_
  refine ⟨a, kd, B, lv, kvs, rfl, ok, lok, hM1.d, .inl hM1.l, hM1.k, hM1.a, fun q H' ks nq e2 p1 p2 hB => k q H' ks (e1.free nq) (e1.trans e2) p1 p2 hB⟩
theorem ok__law_model {f : Addr} {fd : FuncData} (T : Tx K mg) (F : FnP K "_law_model" s__law_model f fd)
    (d__law_take : Dn P w K mg base CX0 2 "_law_take" ["_law_state", "_law_size"] sp_take) (d__law_pick : Dn P w K mg base CX0 3 "_law_pick" ["_law_state", "_law_some_here"] sp_pick)
    (d__law_names : Dn P w K mg base CX0 4 "_law_names" ["_law_state", "_law_many"] sp_names) (d__law_some : Dn P w K mg base CX0 3 "_law_some" ["_law_state", "_law_some_here", "_law_many"] sp_some) :
    FnOk P w K mg base CX0 5 f fd ["_law_state", "_law_many", "_law_is_laid"] sp_model := by
  have sc : FnScope ["_law_state", "_law_many", "_law_is_laid", "_law_rounds", "_law_wide", "_law_sizes", "_law_model_here", "_law_label", "_law_rated", "_law_k"] ["_law_state", "_law_many", "_law_is_laid"] (defScope s__law_model) := ⟨rfl, rfl, rfl, by decide +kernel, rfl, by decide +kernel, by decide +kernel⟩
  refine F.ok sc (by rintro vs H Q E ⟨_, _, _, _, _, _, _, rfl, _⟩; rfl) (fun cdv A outer s H vs Q E hr h => ⟨_, PSs.nox ((pss_cons (ps_asg (pe_tup (pa_cons (pe_op op_add pe_int (pe_fn d__law_take (hr.mono (by decide)) pass0 (pa_cons (pv 0) (pa_cons (pe_fn d__law_pick (hr.mono (by decide)) pass0 (pa_cons (pv 0) (pa_cons (pe_lst (pa_cons pe_int (pa_cons pe_int (pa_cons pe_int pa_nil)))) pa_nil))) pa_nil)))) (pa_cons (pe_fn d__law_pick (hr.mono (by decide)) pass0 (pa_cons (pv 0) (pa_cons (pe_lst (pa_cons pe_int (pa_cons pe_int (pa_cons pe_int (pa_cons pe_int pa_nil))))) pa_nil))) pa_nil))) (pg_tupK (K := K) (n := 2) rfl rfl (pgs_cons (pg_name (i := 3) sc.nd rfl (by first | exact Or.inl rfl | exact Or.inr rfl)) (pgs_cons (pg_name (i := 4) sc.nd rfl (by first | exact Or.inl rfl | exact Or.inr rfl)) pgs_nil))))
      (pss_cons (ps_setLc (i := 5) (own := [("_law_k", 9)]) (by rfl) sc.nd rfl rfl (sw_true rfl rfl rfl (by decide +kernel)) (pi_range1 (by rfl) T.b_range (pa_cons (pv 3) pa_nil)) (blkOk_by (own := [("_law_k", 9)]) (N := ["_law_state", "_law_many", "_law_is_laid", "_law_rounds", "_law_wide", "_law_sizes", "_law_model_here", "_law_label", "_law_rated", "_law_k"]) (sc := defScope s__law_model) (by decide +kernel)) (fun _ _ _ _ _ => (pg_name (i := 9) sc.nd rfl (by first | exact Or.inl rfl | exact Or.inr rfl))) (fun _ _ _ _ _ => pts_nil) (fun _ _ _ _ _ => (pe_op op_add pe_int (pe_fn d__law_take (hr.mono (by decide)) pass0 (pa_cons (pv 0) (pa_cons (pv 4) pa_nil))))))
      (pss_cons (ps_set (i := 6) sc.nd rfl (by first | exact Or.inl rfl | exact Or.inr rfl) (pe_disp (pps_cons pe_str (pv 5) (pps_cons pe_str pe_dnewK (pps_cons pe_str pe_non (pps_cons pe_str (pe_fn d__law_take (hr.mono (by decide)) pass0 (pa_cons (pv 0) (pa_cons pe_int pa_nil))) pps_nil)))) (by rfl) (by rfl) (fun z => by cases z) (by decide)))
      (pss_cons (ps_dput (hu_of hr) (pv 6) pe_str (pe_fn d__law_pick (hr.mono (by decide)) pass0 (pa_cons (pv 0) (pa_cons (pe_lst (pa_cons pe_int (pa_cons (pe_op op_sub (pe_callB (c_minK (K := K) rfl rfl) (by rfl) T.b_min (by decide +kernel) (pa_cons (pv 5) pa_nil)) pe_int) (pa_cons (pe_fn d__law_take (hr.mono (by decide)) pass0 (pa_cons (pv 0) (pa_cons (pe_callB (c_minK (K := K) rfl rfl) (by rfl) T.b_min (by decide +kernel) (pa_cons (pv 5) pa_nil)) pa_nil))) pa_nil)))) pa_nil))) rfl)
      (pss_cons (ps_dput (hu_of hr) (pv 6) pe_str (pe_fn d__law_pick (hr.mono (by decide)) pass0 (pa_cons (pv 0) (pa_cons (pe_lst (pa_cons pe_str (pa_cons pe_str pa_nil))) pa_nil))) rfl)
      (pss_cons (ps_for PassesOwn.never rfl (pi_listK (K := K) rfl (pe_fn d__law_names (hr.mono (by decide)) pass0 (pa_cons (pv 0) (pa_cons (pe_op op_add pe_int (pe_fn d__law_take (hr.mono (by decide)) pass0 (pa_cons (pv 0) (pa_cons (pv 1) pa_nil)))) pa_nil)))) (pg_name (i := 7) sc.nd rfl (by first | exact Or.inl rfl | exact Or.inr rfl)) (pss_cons (ps_set (i := 8) sc.nd rfl (by first | exact Or.inl rfl | exact Or.inr rfl) (pe_fn d__law_pick (hr.mono (by decide)) pass0 (pa_cons (pv 0) (pa_cons (pe_lst (pa_cons pe_int (pa_cons pe_int (pa_cons pe_int (pa_cons pe_int (pa_cons pe_int (pa_cons (pe_fn d__law_take (hr.mono (by decide)) pass0 (pa_cons (pv 0) (pa_cons pe_int pa_nil))) pa_nil))))))) pa_nil))))
      (pss_one (ps_dput (hu_of hr) (pe_dget (hu_of hr) (pv 6) pe_str (fun _ _ => rfl)) (pv 7) (pe_tup (pa_cons (pv 8) (pa_cons (pe_cmpR op_gt (pe_fn d__law_take (hr.mono (by decide)) pass0 (pa_cons (pv 0) (pa_cons pe_int pa_nil))) pe_int (nomark _)) pa_nil))) rfl))))
      (Evl.pss_cut (ps_if (PW.pt (pw_and (pt_val (pv 2)) (pw_and1 (pt_cmpR op_gt (pe_fn d__law_take (hr.mono (by decide)) pass0 (pa_cons (pv 0) (pa_cons pe_int pa_nil))) pe_int (nomark _))))) (pss_one (ps_dput (hu_of hr) (pv 6) pe_str (pe_callTy (c_tupleF (K := K) rfl) (by rfl) T.b_tuple (by decide +kernel) (pa_cons (pe_fn d__law_some (hr.mono (by decide)) pass0 (pa_cons (pv 0) (pa_cons (pe_callTy (c_listD rfl) (by rfl) T.b_list (by decide +kernel) (pa_cons (pe_dget (hu_of hr) (pv 6) pe_str (fun _ _ => rfl)) pa_nil)) (pa_cons pe_int pa_nil)))) pa_nil)) rfl)) pss_nil)
      (pss_one (ps_ret (pv 6))))))))))), ?_⟩)
  obtain ⟨st, l, c, cs, n, many, il, rfl, hn, D, m1, m6, k⟩ := h
  walk_at "rd"
  refine r_kLst fun a1 H1 na1 e1 ha1 => ?_
  walk_at "rd"
  refine u_pick D (by omega) na1 e1 ha1 (by simp) (by simp) fun i1 x1 H2 hx1 D2 k2 => ?_
  obtain ⟨z1, rfl, z11, z12⟩ := IntsIn.get (lo := 1) (hi := 4) (by simp [IntsIn]) hx1
  walk_at "rd"
  refine u_take D2 (by omega) (by omega) (by omega) fun r H3 r0 r1 D3 k3 => ?_
  walk_at "rd"
  refine r_kLst fun a2 H4 na2 e4 ha2 => ?_
  walk_at "rd"
  refine u_pick D3 (by omega) na2 e4 ha2 (by simp) (by simp) fun i2 x2 H5 hx2 D5 k5 => ?_
  obtain ⟨z2, rfl, z21, z22⟩ := IntsIn.get (lo := 1) (hi := 30) (by simp [IntsIn]) hx2
  walk_at "rd"
  refine r_kTup fun tq H6 ntq e6 htq => ?_
  walk_at "rd"
  have k6 : Kp st l H H6 := ((k2.trans k3).trans k5).trans (Kp.of e6)
  have D6 := D5.keep e6
  refine r_kLcR1 (fun Da i H' => ∃ ls : List Int, ls.length = i ∧ (∀ z ∈ ls, 2 ≤ z ∧ z ≤ 31) ∧ H' Da = some (.lst (ls.map V.int)) ∧ DS st l c cs (n + 1 + 1 + 1 + (i : Int)) H' ∧ Kp st l H6 H') (by omega)
    (fun Da H' nD e h => ⟨[], rfl, fun z hz => (by cases hz), h, (D6.keep e).mono (by omega), Kp.of e⟩) ?_ ?_
  · rintro Da i H' nD hi ⟨ls, hl, hz, hDa, D7, k7⟩
    walk_at "rd"
    refine u_take D7 (by omega) (by omega) (by omega) fun y H8 y0 y1 D8 k8 => ?_
    walk_at "rd"
    refine r_kLcE (k8 _ _ hDa (D6.nst nD) (D6.nl nD)) (by rw [List.length_map]; omega) fun H9 b9 h9 => ?_
    refine ⟨ls ++ [2 + y], by simp [hl], ?_, by rw [List.map_append]; exact h9, (D8.but D6 nD b9).mono (by omega), (k7.trans k8).mut b9 nD⟩
    intro z hz'
    rcases List.mem_append.mp hz' with h | h
    · exact hz z h
    · rw [List.mem_singleton.mp h]
      omega
  rintro sz H7 nsz ⟨ls, hl, hz, hsz, D7, k7⟩
  walk_at "rd"
  have hn0 := D7
  refine r_disp fun p H8 np e8 hp => ?_
  walk_at "rd"
  refine r_dnewK fun kd H9 nkd e9 hkd => ?_
  walk_at "rd"
  have D9 := (D7.keep e8).keep e9
  have npk : p ≠ kd := ne_of_none hp nkd
  have np0 : H7 kd = none := e8.free nkd
  refine u_take D9 (by omega) (by omega) (by omega) fun m H10 m0 m1 D10 k10 => ?_
  have hp10 := k10 _ _ (e9 _ _ hp) (D7.nst np) (D7.nl np)
  have hkd10 := k10 _ _ hkd (D7.nst np0) (D7.nl np0)
  have hsz10 := k10 _ _ (e9 _ _ (e8 _ _ hsz)) (D6.nst nsz) (D6.nl nsz)
  walk_at "rd"
  refine r_kDisp (mk4 (.ref sz) (.ref kd) .non (.int m)) hp10 rfl (show 4 ≤ 15 by decide) mk4_nd fun H11 b11 hp11 => ?_
  have D11 := D10.but D7 np b11
  have kp11 : Kp st l H7 H11 := ((Kp.of (e8.trans e9)).trans k10).mut b11 np
  have hkd11 := b11 _ _ hkd10 npk.symm
  have nsp : sz ≠ p := ne_of_none hsz np
  have hsz11 := b11 _ _ hsz10 nsp
  walk_at "rd"
  have hlz : 0 < ls.length := by omega
  refine r_minL (SqL.of hsz11) hlz fun mn hmn hmin => ?_
  have hmn2 := hz mn hmn
  walk_at "rd"
  refine r_minL (SqL.of hsz11) hlz fun mn' hmn' hmin' => ?_
  obtain rfl : mn' = mn := Int.le_antisymm (hmin' _ hmn) (hmin _ hmn')
  walk_at "rd"
  refine u_take D11 (by omega) (by omega) (by omega) fun y H12 y0 y1 D12 k12 => ?_
  walk_at "rd"
  refine r_kLst fun a3 H13 na3 e13 ha3 => ?_
  walk_at "rd"
  refine u_pick D12 (by omega) na3 e13 ha3 (by simp) (by simp) fun i3 x3 H14 hx3 D14 k14 => ?_
  obtain ⟨due, rfl, due0, due1⟩ := IntsIn.get (lo := 0) (hi := mn' - 1) (by simp [IntsIn]; omega) hx3
  have kp14 := (kp11.trans k12).trans k14
  have k1114 := k12.trans k14
  have hp14 := k1114 _ _ hp11 (D7.nst np) (D7.nl np)
  walk_at "rd"
  refine r_kDPutS hp14 (by simp [mk4]) fun H15 b15 hp15 => ?_
  rw [mp5] at hp15
  have D15 := D14.but D7 np b15
  have kp15 := kp14.mut b15 np
  have hkd15 := b15 _ _ (k1114 _ _ hkd11 (D7.nst np0) (D7.nl np0)) npk.symm
  have hsz15 := b15 _ _ (k1114 _ _ hsz11 (D6.nst nsz) (D6.nl nsz)) nsp
  walk_at "rd"
  refine r_kLst fun a4 H16 na4 e16 ha4 => ?_
  walk_at "rd"
  refine u_pick D15 (by omega) na4 e16 ha4 (by simp) (by simp) fun i4 x4 H17 hx4 D17 k17 => ?_
  obtain ⟨bg, rfl, hbg⟩ : ∃ bg : Str, x4 = .str bg ∧ (bg = "day" ∨ bg = "statement") := by
    rcases List.mem_cons.mp (List.mem_of_getElem? hx4) with h | h
    · exact ⟨_, h, .inl rfl⟩
    · exact ⟨_, List.mem_singleton.mp h, .inr rfl⟩
  have hp17 := k17 _ _ hp15 (D7.nst np) (D7.nl np)
  walk_at "rd"
  refine r_kDPutS hp17 (by simp [mk4, mk5]) fun H18 b18 hp18 => ?_
  rw [mp6] at hp18
  have D18 := D17.but D7 np b18
  have kp18 := (kp15.trans k17).mut b18 np
  have hkd18 := b18 _ _ (k17 _ _ hkd15 (D7.nst np0) (D7.nl np0)) npk.symm
  have hsz18 := b18 _ _ (k17 _ _ hsz15 (D6.nst nsz) (D6.nl nsz)) nsp
  walk_at "rd"
  refine u_take D18 (by omega) (by omega) (by omega) fun q H19 q0 q1 D19 k19 => ?_
  walk_at "rd"
  refine ⟨st, l, c, cs, _, 1 + q, rfl, (by omega : _ ≤ (17592186044416 : Int)), D19, by omega, by omega, fun t nms H20 nt hnl hnm ht D20 k20 => ?_⟩
  have k1820 := k19.trans k20
  have D20' : DS st l c cs (n + 80) H20 := D20.mono (by omega)
  have kp20 := kp18.trans k1820
  have hp20 := k1820 _ _ hp18 (D7.nst np) (D7.nl np)
  have hkd19 := k19 _ _ hkd18 (D7.nst np0) (D7.nl np0)
  have hkd20 := k20 _ _ hkd19 (D7.nst np0) (D7.nl np0)
  have hsz20 := k1820 _ _ hsz18 (D6.nst nsz) (D6.nl nsz)
  have ntk : t ≠ kd := (ne_of_none hkd19 nt).symm
  have nt1 : t ≠ st := D19.nst nt
  have nt2 : t ≠ l := D19.nl nt
  have nsk : sz ≠ kd := ne_of_none hsz np0
  have hnl6 : nms.length ≤ 6 := by omega
  walk_at "rd"
  refine r_kForL (xs := nms.map V.str) (fun i σ' H' => ∃ (y7 y8 y9 : Option V) (kvs : List (Key × V)) (ks : List (Str × Int × Bool)), σ' = [some (.ref st), some (.int many), some (.bl il), some (.int (1 + r)), some (.int z2), some (.ref sz), some (.ref p), y7, y8, y9] ∧
      ks.map (·.1) = nms.take i ∧ (∀ k ∈ ks, 0 ≤ k.2.1 ∧ k.2.1 ≤ 1000) ∧ H' kd = some (.dK kvs) ∧ KAt H' kvs ks ∧ H' p = some (.dK (mkv (.ref sz) (.ref kd) .non (.int m) (.int due) (.str bg))) ∧ H' sz = some (.lst (ls.map V.int)) ∧ H' t = some (.lst (nms.map V.str)) ∧
      DS st l c cs (n + 80 + 3 * (i : Int)) H' ∧ Kp st l H7 H') (SqL.of ht) ⟨_, _, _, [], [], rfl, rfl, fun k h => (by cases h), hkd20, .nil, hp20, hsz20, ht, D20'.mono (by omega), kp20⟩
      (fun i σ' H' ⟨_, _, _, _, _, _, _, _, _, _, _, _, h, _⟩ => SqL.of h) ?_ ?_
  · rintro i x σ' H21 hx ⟨y7, y8, y9, kvs, ks, rfl, hks, hrt, hkd21, hK, hp21, hsz21, ht21, D21, kp21⟩
    obtain ⟨nm, rfl, hnx⟩ := strs_get hx
    have hil := (List.getElem?_eq_some_iff.mp hnx).1
    walk_at "rd"
    refine u_take D21 (by omega) (by omega) (by omega) fun y H22 y0 y1 D22 k22 => ?_
    walk_at "rd"
    refine r_kLst fun a5 H23 na5 e23 ha5 => ?_
    walk_at "rd"
    refine u_pick D22 (by omega) na5 e23 ha5 (by simp) (by simp) fun i5 x5 H24 hx5 D24 k24 => ?_
    obtain ⟨rt, rfl, rt0, rt1⟩ := IntsIn.get (lo := 0) (hi := 1000) (by simp [IntsIn]; omega) hx5
    walk_at "rd"
    refine u_take D24 (by omega) (by omega) (by omega) fun fr H25 fr0 fr1 D25 k25 => ?_
    have k2125 := (k22.trans k24).trans k25
    walk_at "rd"
    refine r_kTup fun tq H26 ntq e26 htq => ?_
    have k2126 := k2125.trans (Kp.of e26)
    have hp26 := k2126 _ _ hp21 (D7.nst np) (D7.nl np)
    have hkd26 := k2126 _ _ hkd21 (D7.nst np0) (D7.nl np0)
    have hlen := hK.len
    have hkl : ks.length = i := by
      have := congrArg List.length hks
      rw [List.length_map, List.length_take] at this
      omega
    have hfresh : nm ∉ ks.map (·.1) := fun z => by
      rw [hks] at z
      have nd2 : ((nms.take (i + 1))).Nodup := hnm.nd.sublist (List.take_sublist _ _)
      rw [take_more hnx, List.nodup_append] at nd2
      exact nd2.2.2 nm z nm (by simp) rfl
    walk_at "rd"
    refine r_kDPutS hkd26 (by omega) fun H27 b27 hkd27 => ?_
    rw [putK_new _ (hK.fresh hfresh)] at hkd27
    have hK26 : KAt H26 kvs ks := hK.keep (k2126.tups D21)
    have tk : ∀ u xs, H26 u = some (.tup xs) → H27 u = some (.tup xs) := fun u xs hu => b27 _ _ hu (ne_of hu hkd26 (by intro z; cases z))
    refine ⟨_, _, _, _, ks ++ [(nm, rt, _)], rfl, ?_, ?_, hkd27, (hK26.keep tk).snoc (tk _ _ htq), b27 _ _ hp26 npk, b27 _ _ (k2126 _ _ hsz21 (D6.nst nsz) (D6.nl nsz)) nsk, b27 _ _ (k2126 _ _ ht21 nt1 nt2) ntk, ((D25.keep e26).but D7 np0 b27).mono (by omega), (kp21.trans k2126).mut b27 np0⟩
    · rw [List.map_append, hks, take_more hnx]
      rfl
    · intro k' hk'
      rcases List.mem_append.mp hk' with h | h
      · exact hrt k' h
      · rw [List.mem_singleton.mp h]
        exact ⟨rt0, rt1⟩
  rintro σ' H21 ⟨y7, y8, y9, kvs, ks, rfl, hks, hrt, hkd21, hK, hp21, hsz21, ht21, D21, kp21⟩
  rw [List.length_map, List.take_length] at hks
  rw [List.length_map] at D21
  have hkl : ks.length = nms.length := by
    have := congrArg List.length hks
    rw [List.length_map] at this
    exact this
  have kok : KindsOk ks := ⟨by omega, by omega, by rw [hks]; exact hnm, hrt⟩
  have okB : ∀ o, (⟨ls, due, ks, m, bg, o⟩ : Bk).Ok := fun o => ⟨(show 1 ≤ ls.length by omega), (show ls.length ≤ 4 by omega), hz, due0, fun x hx => by have := hmin _ hx; show due < x; omega, kok, m0, (show m ≤ 2 by omega), hbg⟩
  have hp0 : H p = none := by
    rcases hq : H p with _ | o
    · rfl
    · have h1 := (k6.trans k7) _ _ hq (D7.nst np) (D7.nl np)
      rw [np] at h1
      cases h1
  refine r_cut (fun σ' H' => ∃ lv o, σ' = [some (.ref st), some (.int many), some (.bl il), some (.int (1 + r)), some (.int z2), some (.ref sz), some (.ref p), y7, y8, y9] ∧ MdlIn l H' p ⟨ls, due, ks, m, bg, o⟩ sz kd lv kvs ∧ (⟨ls, due, ks, m, bg, o⟩ : Bk).LaidOk ∧ DS st l c cs (n + 200) H' ∧ Kp st l H7 H') ?_ ?_
  · have none_ok : (⟨ls, due, ks, m, bg, none⟩ : Bk).LaidOk := fun ns h => by cases h
    have M0 : MdlIn l H21 p ⟨ls, due, ks, m, bg, none⟩ sz kd .non kvs := ⟨hp21, hsz21, D6.nl nsz, hkd21, hK, rfl⟩
    walk_at "rd"
    cases il with
    | false =>
      walk_at "rd"
      exact ⟨_, none, rfl, M0, none_ok, D21.mono (by omega), kp21⟩
    | true =>
      walk_at "rd"
      refine u_take D21 (by omega) (by omega) (by omega) fun w0 H22 w1 w2 D22 k22 => ?_
      have M2 := M0.kp k22 D21
      have hp22 := M2.i
      walk_at "rd"
      refine w_dec (fun cc => ?_) (fun cc => ?_)
      · walk_at "rd"
        refine r_listD M2.k fun l1 H23 nl1 e23 hl1 => ?_
        have hn' : (kvs.map fun kv => kV kv.1) = (ks.map (·.1)).map V.str := by
          have e := congrArg (List.map kV) hK.keys
          rw [List.map_map, List.map_map] at e
          exact e
        rw [hn'] at hl1
        walk_at "rd"
        refine ⟨st, l, c, l1, cs, _, 6, _, rfl, (by omega : _ ≤ (17592186044416 : Int)), D22.keep e23, hl1, by rw [List.length_map, List.length_map]; omega, by omega, by omega, fun t1 ys rest H24 nt1 pm hyl ht1 D24 k24 => ?_⟩
        have hrest : rest = [] := by
          have := pm.length_eq
          rw [List.length_append, List.length_map, List.length_map] at this
          rw [List.length_map, List.length_map] at hyl
          exact List.eq_nil_of_length_eq_zero (by omega)
        subst hrest
        rw [List.append_nil] at pm
        obtain ⟨ns, pn, rfl⟩ := perm_lift V.str ys (ks.map (·.1)) pm
        have M4 := (M2.keep e23).kp k24 (D22.keep e23)
        walk_at "rd"
        refine r_tupF (SqL.of ht1) fun tl H25 ntl e25 htl => ?_
        have M5 := M4.keep e25
        walk_at "rd"
        refine r_kDPutS M5.i (by rw [mkv_len]; decide) fun H26 b26 h26 => ?_
        rw [mq3] at h26
        have tk : ∀ u xs, H25 u = some (.tup xs) → H26 u = some (.tup xs) := fun u xs hu => b26 _ _ hu (ne_of hu M5.i (by intro z; cases z))
        refine ⟨_, some ns, rfl, ⟨h26, b26 _ _ M5.l nsp, M5.n, b26 _ _ M5.k npk.symm, M5.a.keep tk, ⟨tl, rfl, htl.keep fun u o xs hu => b26 _ _ hu (ne_of hu M5.i (by intro z; cases z))⟩⟩, fun ns' h => ?_, ((D24.keep e25).but D7 np b26).mono (by omega), ((((kp21.trans k22).trans (Kp.of e23)).trans k24).trans (Kp.of e25)).mut b26 np⟩
        obtain rfl := Option.some.inj h
        exact pn
      · walk_at "rd"
        exact ⟨_, none, rfl, M2, none_ok, D22.mono (by omega), kp21.trans k22⟩
  · rintro σ' H22 ⟨lv, o, rfl, hM, lo, D22, k22⟩
    walk_at "rd"
    exact k p _ H22 hp0 (okB o) lo ⟨_, _, _, _, hM⟩ D22 ((k6.trans k7).trans k22)
end
end Wp
set_option Elab.async false
set_option linter.all false
set_option maxRecDepth 100000
set_option maxHeartbeats 4000000
namespace Wp
open PySem PySem.Spec PyProof.Rows L2
abbrev s__law_first : Stmt := topS 49
abbrev s__law_month : Stmt := topS 50
abbrev s__law_due : Stmt := topS 51
local macro_rules | `(tactic| walk_at "val") => `(tactic| assumption)
local macro_rules | `(tactic| walk_at "rd1") => `(tactic| first
  | with_reducible refine r_seq ?_ | with_reducible refine r_next ?_ | with_reducible refine r_if ?_ | with_reducible refine r_asg ?_ | with_reducible refine r_gname ?_
  | with_reducible refine r_ret ?_ | with_reducible refine r_retN ?_ | with_reducible refine r_drop ?_ | with_reducible refine r_par ?_ | with_reducible refine r_kPar ?_
  | ((with_reducible refine' r_var ?hv ?_); (case hv => exact rfl)) | with_reducible refine r_c ?_ | with_reducible refine r_nil ?_ | with_reducible refine r_cons ?_
  | with_reducible refine r_fn ?_ | with_reducible refine r_cb ?_ | with_reducible refine r_op ?_ | with_reducible refine r_un ?_ | with_reducible refine r_I0 ?_
  | with_reducible refine r_pow5 ?_ | with_reducible refine r_pow6 ?_ | with_reducible refine r_pow7 ?_ | with_reducible refine r_pow9 ?_ | with_reducible refine r_pow18 ?_ | with_reducible refine r_pow20 ?_ | with_reducible refine r_pow30 ?_
  | with_reducible refine r_isN_non ?_ | with_reducible refine r_isN_ref ?_ | with_reducible refine r_isN_int ?_ | with_reducible refine r_isN_str ?_ | with_reducible refine r_isN_bl ?_ | with_reducible refine r_notN_non ?_ | with_reducible refine r_notN_ref ?_ | with_reducible refine r_notN_int ?_ | with_reducible refine r_notN_str ?_ | with_reducible refine r_notN_bl ?_
  | ((with_reducible refine r_I ?hc ?_); (case hc => walk_at "side")) | with_reducible refine r_U ?_
  | with_reducible refine r_eqI ?_ | with_reducible refine r_neI ?_ | with_reducible refine r_eqS ?_ | with_reducible refine r_neS ?_ | with_reducible refine r_eqB ?_ | with_reducible refine r_neB ?_
  | with_reducible refine r_chain ?_ | with_reducible refine r_test ?_ | with_reducible refine r_tB ?_ | with_reducible refine r_kTest ?_ | with_reducible refine r_not ?_
  | with_reducible refine r_and ?_ | with_reducible refine r_or ?_ | with_reducible refine r_tif ?_ | with_reducible refine r_andV ?_ | with_reducible refine r_orV ?_ | with_reducible refine r_notV ?_
  | with_reducible refine r_kAndV ?_ | with_reducible refine r_kOrV ?_ | with_reducible refine r_kNotV ?_
  | with_reducible refine w_T ?_ | with_reducible refine w_F ?_ | with_reducible refine w_NT ?_ | with_reducible refine w_NF ?_
  | with_reducible refine r_tup ?_ | with_reducible refine r_lst ?_ | with_reducible refine r_fld ?_ | with_reducible refine r_prop ?_ | ((with_reducible refine' r_aug ?h1 ?_); (case h1 => exact rfl)) | with_reducible refine r_ipI ?_ | with_reducible refine r_dget ?_ | with_reducible refine r_dput ?_ | with_reducible refine r_bm ?_
  | ((with_reducible refine' r_kDGetS ?h1 ?h2 ?_); (case h1 => assumption); (case h2 => walk_at "val"))
  | ((with_reducible refine' r_kBML ?h1 ?_); (case h1 => assumption))
  | with_reducible refine r_forL ?_ | with_reducible refine r_forR1 ?_ | with_reducible refine r_forR2 ?_ | with_reducible refine r_forT ?_ | with_reducible refine r_lcL ?_ | with_reducible refine r_lcR1 ?_
  | ((with_reducible refine r_kLcG ?hw ?_); (case hw => exact rfl)) | with_reducible refine r_kLcT ?_ | with_reducible refine r_yes ?_
  | with_reducible refine r_pnil ?_ | with_reducible refine r_pcons ?_
  | with_reducible refine r_fnK ?_ | ((with_reducible refine r_kFnK ?hl ?_); (case hl => exact rfl))
  | with_reducible refine r_isi_ii ?_ | with_reducible refine r_isi_ib ?_ | with_reducible refine r_isi_bi ?_ | with_reducible refine r_isi_bb ?_ | with_reducible refine r_isi_ss ?_ | with_reducible refine r_isi_is ?_ | with_reducible refine r_isi_it ?_
  | ((with_reducible refine' r_isi_tt ?h1 ?_); (case h1 => assumption))
  | with_reducible refine r_sfld ?_ | with_reducible refine r_gnil ?_ | with_reducible refine r_gcons ?_
  | ((with_reducible refine' r_gtup ?h1 ?h2 ?_); (case h1 => exact SqT.of (by assumption)); (case h2 => exact rfl))
  | with_reducible refine r_sl ?_ | with_reducible refine r_noPart ?_ | with_reducible refine r_part ?_ | with_reducible refine r_kPart ?_ | with_reducible refine r_m1 ?_ | with_reducible refine r_kM1 ?_ | with_reducible refine r_forS ?_ | with_reducible refine r_lcS ?_ | with_reducible refine r_lcTu ?_ | with_reducible refine r_lcK ?_ | with_reducible refine r_dcL ?_ | with_reducible refine r_dcK ?_ | with_reducible refine r_lc2L ?_ | with_reducible refine r_kLc2TL ?_ | with_reducible refine r_dcEn ?_ | with_reducible refine r_gslc ?_ | with_reducible refine r_lcEn ?_ | with_reducible refine r_lcEl ?_ | with_reducible refine r_lcR2 ?_ | with_reducible refine r_rg1 ?_ | with_reducible refine r_forET ?_ | with_reducible refine r_lenD ?_
  | ((with_reducible refine r_kDcG ?hw ?_); (case hw => exact rfl)) | with_reducible refine r_kDcT ?_
  | with_reducible refine r_fldaug ?_ | with_reducible refine r_daug ?_ | with_reducible refine r_rAdd ?_ | with_reducible refine r_rSub ?_ | with_reducible refine r_ddel ?_ | with_reducible refine r_bmF ?_ | with_reducible refine r_dget2 ?_ | with_reducible refine r_listItems ?_ | with_reducible refine r_bm0 ?_ | with_reducible refine r_lc2E ?_ | ((with_reducible refine r_kLc2G ?hw ?_); (case hw => exact rfl)) | with_reducible refine r_kLc2T ?_ | with_reducible refine r_forE ?_ | with_reducible refine r_orT ?_ | with_reducible refine r_din ?_ | with_reducible refine r_augS ?_ | with_reducible refine r_dnotin ?_ | with_reducible refine r_lcIT ?_ | with_reducible refine r_cont ?_ | with_reducible refine r_meth ?_ | with_reducible refine r_frz ?_ | with_reducible refine r_par3 ?_ | with_reducible refine r_kPar3 ?_ | with_reducible refine r_dz ?_ | with_reducible refine r_revL ?_ | with_reducible refine r_star ?_ | with_reducible refine r_int1 ?_ | with_reducible refine r_int1b ?_ | with_reducible refine r_min2 ?_ | with_reducible refine r_max2 ?_ | with_reducible refine r_gsub ?_)
local macro_rules | `(tactic| walk_at "rd") => `(tactic| repeat walk_at "rd1")
local macro_rules | `(tactic| walk_at "side") => `(tactic| first | assumption | exact Or.inr ⟨by decide, by decide⟩ | exact Or.inl ⟨by decide, by decide⟩ | (constructor <;> omega) | omega | decide | (refine Or.inl ⟨?_, ?_⟩ <;> omega) | (refine Or.inr ⟨?_, ?_⟩ <;> omega) | (refine ⟨?_, ?_, ?_⟩ <;> first | decide | omega))
local macro_rules | `(tactic| walk_at "val") => `(tactic| first | exact mv1 | exact mv2 | exact mv3 | exact mv4 | exact mv5 | exact mv6)
def sp_lfirst : Sp := fun vs H Q _ => ∃ (l p : Addr) (B : Bk) (m : Int), vs = [.ref p, .int m] ∧ Mdl l H p B ∧ LsOk B.ls ∧ ∀ H', Same H H' → Q (.int (firstL B.ls m)) H'
def sp_lmonth : Sp := fun vs H Q _ => ∃ (l p : Addr) (B : Bk) (d : Int), vs = [.ref p, .int d] ∧ Mdl l H p B ∧ LsOk B.ls ∧ ∀ H', Same H H' → Q (.int (monthL B.ls d)) H'
def sp_ldue : Sp := fun vs H Q _ => ∃ (l p : Addr) (B : Bk) (m : Int), vs = [.ref p, .int m] ∧ Mdl l H p B ∧ LsOk B.ls ∧ ∀ H', Same H H' → Q (.int (firstL B.ls (m + 1) + B.due)) H'
section
variable {P : Program} {w : World} {K : PySem.W.Frag} {mg : Str → Option Value} {base : Heap}
theorem ok__law_first {f : Addr} {fd : FuncData} (T : Tx K mg) (F : FnP K "_law_first" s__law_first f fd) : FnOk P w K mg base CX0 1 f fd ["_law_model_here", "_law_mon"] sp_lfirst := by
  have sc : FnScope ["_law_model_here", "_law_mon", "_law_sizes", "_law_count"] ["_law_model_here", "_law_mon"] (defScope s__law_first) := ⟨rfl, rfl, rfl, by decide +kernel, rfl, by decide +kernel, by decide +kernel⟩
  refine F.ok sc (by rintro vs H Q E ⟨_, _, _, _, rfl, _⟩; rfl) (fun cdv A outer s H vs Q E hr h => ⟨_, PSs.nox ((pss_cons (ps_set (i := 2) sc.nd rfl (by first | exact Or.inl rfl | exact Or.inr rfl) (pe_dget (hu_of hr) (pv 0) pe_str (fun _ _ => rfl)))
      (pss_cons (ps_set (i := 3) sc.nd rfl (by first | exact Or.inl rfl | exact Or.inr rfl) (pe_callB (c_lenK (K := K) rfl) (by rfl) T.b_len (by decide +kernel) (pa_cons (pv 2) pa_nil)))
      (pss_one (ps_ret (pe_op op_add (pe_op op_mul (pe_op op_fdiv (pv 1) (pv 3)) (pe_callB (c_sumK (K := K) rfl rfl) (by rfl) T.b_sum (by decide +kernel) (pa_cons (pv 2) pa_nil))) (pe_callB (c_sumK (K := K) rfl rfl) (by rfl) T.b_sum (by decide +kernel) (pa_cons (pe_slice (sl_listK (K := K) rfl) (pv 2) po_none (po_some (pe_op op_mod (pe_callTy c_int1 (by rfl) T.b_int (by decide +kernel) (pa_cons (pv 1) pa_nil)) (pv 3)))) pa_nil)))))))), ?_⟩)
  obtain ⟨l, p, B, m, rfl, ⟨ad, kd, lv, kvs, hM⟩, ok, k⟩ := h
  have hp := hM.i
  have l1 := ok.l1
  have l2 := ok.l2
  have hs := ok.sum
  have hm0 := Int.emod_nonneg m (b := (B.ls.length : Int)) (by omega)
  have hm1 := Int.emod_lt_of_pos m (b := (B.ls.length : Int)) (by omega)
  walk_at "rd"
  refine r_lenL (SqL.of hM.l) ?_
  rw [List.length_map]
  walk_at "rd"
  refine r_sum (SqL.of hM.l) ?_
  walk_at "rd"
  refine r_slL_take (SqL.of hM.l) hm0 fun t H1 nt e1 ht => ?_
  rw [← List.map_take] at ht
  walk_at "rd"
  refine r_sum (SqL.of ht) ?_
  walk_at "rd"
  exact k H1 e1
theorem ok__law_due {f : Addr} {fd : FuncData} (T : Tx K mg) (F : FnP K "_law_due" s__law_due f fd) (d__law_first : Dn P w K mg base CX0 1 "_law_first" ["_law_model_here", "_law_mon"] sp_lfirst) : FnOk P w K mg base CX0 2 f fd ["_law_model_here", "_law_mon"] sp_ldue := by
  have sc : FnScope ["_law_model_here", "_law_mon"] ["_law_model_here", "_law_mon"] (defScope s__law_due) := ⟨rfl, rfl, rfl, by decide +kernel, rfl, by decide +kernel, by decide +kernel⟩
  refine F.ok sc (by rintro vs H Q E ⟨_, _, _, _, rfl, _⟩; rfl) (fun cdv A outer s H vs Q E hr h => ⟨_, PSs.nox ((pss_one (ps_ret (pe_op op_add (pe_fn d__law_first (hr.mono (by decide)) pass0 (pa_cons (pv 0) (pa_cons (pe_op op_add (pv 1) pe_int) pa_nil))) (pe_dget (hu_of hr) (pv 0) pe_str (fun _ _ => rfl)))))), ?_⟩)
  obtain ⟨l, p, B, m, rfl, hM, ok, k⟩ := h
  walk_at "rd"
  refine ⟨l, p, B, m + 1, rfl, hM, ok, fun H1 e1 => ?_⟩
  obtain ⟨ad, kd, lv, kvs, hM1⟩ := hM.keep e1
  have hp := hM1.i
  walk_at "rd"
  exact k H1 e1
theorem ok__law_month {f : Addr} {fd : FuncData} (T : Tx K mg) (F : FnP K "_law_month" s__law_month f fd) (d__law_first : Dn P w K mg base CX0 1 "_law_first" ["_law_model_here", "_law_mon"] sp_lfirst) : FnOk P w K mg base CX0 2 f fd ["_law_model_here", "_law_date"] sp_lmonth := by
  have sc : FnScope ["_law_model_here", "_law_date", "_law_sizes", "_law_mon", "_law_k"] ["_law_model_here", "_law_date"] (defScope s__law_month) := ⟨rfl, rfl, rfl, by decide +kernel, rfl, by decide +kernel, by decide +kernel⟩
  refine F.ok sc (by rintro vs H Q E ⟨_, _, _, _, rfl, _⟩; rfl) (fun cdv A outer s H vs Q E hr h => ⟨_, PSs.nox ((pss_cons (ps_set (i := 2) sc.nd rfl (by first | exact Or.inl rfl | exact Or.inr rfl) (pe_dget (hu_of hr) (pv 0) pe_str (fun _ _ => rfl)))
      (pss_cons (ps_set (i := 3) sc.nd rfl (by first | exact Or.inl rfl | exact Or.inr rfl) (pe_op op_mul (pe_op op_fdiv (pv 1) (pe_callB (c_sumK (K := K) rfl rfl) (by rfl) T.b_sum (by decide +kernel) (pa_cons (pv 2) pa_nil))) (pe_callB (c_lenK (K := K) rfl) (by rfl) T.b_len (by decide +kernel) (pa_cons (pv 2) pa_nil))))
      (pss_cons (ps_for PassesOwn.never rfl (pi_range1 (by rfl) T.b_range (pa_cons (pe_callB (c_lenK (K := K) rfl) (by rfl) T.b_len (by decide +kernel) (pa_cons (pv 2) pa_nil)) pa_nil)) (pg_name (i := 4) sc.nd rfl (by first | exact Or.inl rfl | exact Or.inr rfl)) (pss_one (ps_set (i := 3) sc.nd rfl (by first | exact Or.inl rfl | exact Or.inr rfl) (pe_op op_add (pv 3) (pe_callTy c_int1 (by rfl) T.b_int (by decide +kernel) (pa_cons (pe_cmpR op_le (pe_fn d__law_first (hr.mono (by decide)) pass0 (pa_cons (pv 0) (pa_cons (pe_op op_add (pv 3) pe_int) pa_nil))) (pv 1) (nomark _)) pa_nil))))))
      (pss_one (ps_ret (pv 3))))))), ?_⟩)
  obtain ⟨l, p, B, d, rfl, hM0, ok, k⟩ := h
  obtain ⟨ad, kd, lv, kvs, hM⟩ := id hM0
  have hp := hM.i
  have l1 := ok.l1
  have l2 := ok.l2
  have hs := ok.sum
  have hr0 := Int.emod_nonneg d (b := B.ls.sum) (by omega)
  have hr1 := Int.emod_lt_of_pos d (b := B.ls.sum) (by omega)
  obtain ⟨c1, c2, c3⟩ := cntL_spec ok.l3 hr0 hr1
  walk_at "rd"
  refine r_sum (SqL.of hM.l) ?_
  walk_at "rd"
  refine r_lenL (SqL.of hM.l) ?_
  rw [List.length_map]
  walk_at "rd"
  refine r_lenL (SqL.of hM.l) ?_
  rw [List.length_map]
  walk_at "rd"
  refine r_kForR1 (fun i σ' H' => ∃ y, σ' = [some (.ref p), some (.int d), some (.ref ad), some (.int (d / B.ls.sum * (B.ls.length : Int) + (min i (cntL B.ls (d % B.ls.sum)) : Nat))), y] ∧ Same H H') (by omega) ⟨_, by simp; rfl, Same.refl _⟩ ?_ ?_
  · rintro i σ' H1 hi ⟨y, rfl, e1⟩
    walk_at "rd"
    refine ⟨l, p, B, _, rfl, hM0.keep e1, ok, fun H2 e2 => ?_⟩
    walk_at "rd"
    have hst := law_step ok d (min i (cntL B.ls (d % B.ls.sum))) (Nat.min_le_right _ _)
    refine ⟨some (.int (i : Int)), ?_, e1.trans e2⟩
    · rw [decide_eq_decide.mpr hst]
      have e : d / B.ls.sum * (B.ls.length : Int) + (min i (cntL B.ls (d % B.ls.sum)) : Nat) + (if decide (min i (cntL B.ls (d % B.ls.sum)) < cntL B.ls (d % B.ls.sum)) = true then 1 else 0) = d / B.ls.sum * (B.ls.length : Int) + (min (i + 1) (cntL B.ls (d % B.ls.sum)) : Nat) := by
        simp only [decide_eq_true_eq]
        split <;> omega
      rw [e]
      rfl
  · rintro σ' H1 ⟨y, rfl, e1⟩
    walk_at "rd"
    have e : d / B.ls.sum * (B.ls.length : Int) + (min (B.ls.length : Int).toNat (cntL B.ls (d % B.ls.sum)) : Nat) = monthL B.ls d := by
      unfold monthL
      rw [Int.toNat_natCast, Nat.min_eq_right (by omega)]
    rw [e]
    exact k H1 e1
end
end Wp
set_option Elab.async false
set_option linter.all false
set_option maxRecDepth 100000
set_option maxHeartbeats 4000000
/-! Promises of the program. -/
namespace Wp
open PySem PySem.Spec PyProof.Rows L2
abbrev s_next_day : Stmt := topS 37
abbrev s_is_promise : Stmt := topS 38
abbrev s_breaker : Stmt := topS 39
local macro_rules | `(tactic| walk_at "val") => `(tactic| assumption)
local macro_rules | `(tactic| walk_at "rd1") => `(tactic| first
  | with_reducible refine r_seq ?_ | with_reducible refine r_next ?_ | with_reducible refine r_if ?_ | with_reducible refine r_asg ?_ | with_reducible refine r_gname ?_
  | with_reducible refine r_ret ?_ | with_reducible refine r_retN ?_ | with_reducible refine r_drop ?_ | with_reducible refine r_par ?_ | with_reducible refine r_kPar ?_
  | ((with_reducible refine' r_var ?hv ?_); (case hv => exact rfl)) | with_reducible refine r_c ?_ | with_reducible refine r_nil ?_ | with_reducible refine r_cons ?_
  | with_reducible refine r_fn ?_ | with_reducible refine r_cb ?_ | with_reducible refine r_op ?_ | with_reducible refine r_un ?_ | with_reducible refine r_I0 ?_
  | with_reducible refine r_pow5 ?_ | with_reducible refine r_pow6 ?_ | with_reducible refine r_pow7 ?_ | with_reducible refine r_pow9 ?_ | with_reducible refine r_pow18 ?_ | with_reducible refine r_pow20 ?_ | with_reducible refine r_pow30 ?_
  | with_reducible refine r_isN_non ?_ | with_reducible refine r_isN_ref ?_ | with_reducible refine r_isN_int ?_ | with_reducible refine r_isN_str ?_ | with_reducible refine r_isN_bl ?_ | with_reducible refine r_notN_non ?_ | with_reducible refine r_notN_ref ?_ | with_reducible refine r_notN_int ?_ | with_reducible refine r_notN_str ?_ | with_reducible refine r_notN_bl ?_
  | ((with_reducible refine r_I ?hc ?_); (case hc => walk_at "side")) | with_reducible refine r_U ?_
  | with_reducible refine r_eqI ?_ | with_reducible refine r_neI ?_ | with_reducible refine r_eqS ?_ | with_reducible refine r_neS ?_ | with_reducible refine r_eqB ?_ | with_reducible refine r_neB ?_
  | with_reducible refine r_chain ?_ | with_reducible refine r_test ?_ | with_reducible refine r_tB ?_ | with_reducible refine r_kTest ?_ | with_reducible refine r_not ?_
  | with_reducible refine r_and ?_ | with_reducible refine r_or ?_ | with_reducible refine r_tif ?_ | with_reducible refine r_andV ?_ | with_reducible refine r_orV ?_ | with_reducible refine r_notV ?_
  | with_reducible refine r_kAndV ?_ | with_reducible refine r_kOrV ?_ | with_reducible refine r_kNotV ?_
  | with_reducible refine w_T ?_ | with_reducible refine w_F ?_ | with_reducible refine w_NT ?_ | with_reducible refine w_NF ?_
  | with_reducible refine r_tup ?_ | with_reducible refine r_lst ?_ | with_reducible refine r_fld ?_ | with_reducible refine r_prop ?_ | ((with_reducible refine' r_aug ?h1 ?_); (case h1 => exact rfl)) | with_reducible refine r_ipI ?_ | with_reducible refine r_dget ?_ | with_reducible refine r_dput ?_ | with_reducible refine r_bm ?_
  | ((with_reducible refine' r_kDGetS ?h1 ?h2 ?_); (case h1 => assumption); (case h2 => walk_at "val"))
  | ((with_reducible refine' r_kBML ?h1 ?_); (case h1 => assumption))
  | with_reducible refine r_forL ?_ | with_reducible refine r_forR1 ?_ | with_reducible refine r_forR2 ?_ | with_reducible refine r_forT ?_ | with_reducible refine r_lcL ?_ | with_reducible refine r_lcR1 ?_
  | ((with_reducible refine r_kLcG ?hw ?_); (case hw => exact rfl)) | with_reducible refine r_kLcT ?_ | with_reducible refine r_yes ?_
  | with_reducible refine r_pnil ?_ | with_reducible refine r_pcons ?_
  | with_reducible refine r_fnK ?_ | ((with_reducible refine r_kFnK ?hl ?_); (case hl => exact rfl))
  | with_reducible refine r_isi_ii ?_ | with_reducible refine r_isi_ib ?_ | with_reducible refine r_isi_bi ?_ | with_reducible refine r_isi_bb ?_ | with_reducible refine r_isi_ss ?_ | with_reducible refine r_isi_is ?_ | with_reducible refine r_isi_it ?_
  | ((with_reducible refine' r_isi_tt ?h1 ?_); (case h1 => assumption))
  | with_reducible refine r_sfld ?_ | with_reducible refine r_gnil ?_ | with_reducible refine r_gcons ?_
  | ((with_reducible refine' r_gtup ?h1 ?h2 ?_); (case h1 => exact SqT.of (by assumption)); (case h2 => exact rfl))
  | with_reducible refine r_sl ?_ | with_reducible refine r_noPart ?_ | with_reducible refine r_part ?_ | with_reducible refine r_kPart ?_ | with_reducible refine r_m1 ?_ | with_reducible refine r_kM1 ?_ | with_reducible refine r_forS ?_ | with_reducible refine r_lcS ?_ | with_reducible refine r_lcTu ?_ | with_reducible refine r_lcK ?_ | with_reducible refine r_dcL ?_ | with_reducible refine r_dcK ?_ | with_reducible refine r_lc2L ?_ | with_reducible refine r_kLc2TL ?_ | with_reducible refine r_dcEn ?_ | with_reducible refine r_gslc ?_ | with_reducible refine r_lcEn ?_ | with_reducible refine r_lcEl ?_ | with_reducible refine r_lcR2 ?_ | with_reducible refine r_rg1 ?_ | with_reducible refine r_forET ?_ | with_reducible refine r_lenD ?_
  | ((with_reducible refine r_kDcG ?hw ?_); (case hw => exact rfl)) | with_reducible refine r_kDcT ?_
  | with_reducible refine r_fldaug ?_ | with_reducible refine r_daug ?_ | with_reducible refine r_rAdd ?_ | with_reducible refine r_rSub ?_ | with_reducible refine r_ddel ?_ | with_reducible refine r_bmF ?_ | with_reducible refine r_dget2 ?_ | with_reducible refine r_listItems ?_ | with_reducible refine r_bm0 ?_ | with_reducible refine r_lc2E ?_ | ((with_reducible refine r_kLc2G ?hw ?_); (case hw => exact rfl)) | with_reducible refine r_kLc2T ?_ | with_reducible refine r_forE ?_ | with_reducible refine r_orT ?_ | with_reducible refine r_din ?_ | with_reducible refine r_augS ?_ | with_reducible refine r_dnotin ?_ | with_reducible refine r_lcIT ?_ | with_reducible refine r_cont ?_ | with_reducible refine r_meth ?_ | with_reducible refine r_frz ?_ | with_reducible refine r_par3 ?_ | with_reducible refine r_kPar3 ?_ | with_reducible refine r_dz ?_ | with_reducible refine r_revL ?_ | with_reducible refine r_star ?_ | with_reducible refine r_int1 ?_ | with_reducible refine r_int1b ?_ | with_reducible refine r_min2 ?_ | with_reducible refine r_max2 ?_ | with_reducible refine r_gsub ?_)
local macro_rules | `(tactic| walk_at "rd") => `(tactic| repeat walk_at "rd1")
local macro_rules | `(tactic| walk_at "side") => `(tactic| first | assumption | exact Or.inr ⟨by decide, by decide⟩ | exact Or.inl ⟨by decide, by decide⟩ | (constructor <;> omega) | omega | decide | (refine Or.inl ⟨?_, ?_⟩ <;> omega) | (refine Or.inr ⟨?_, ?_⟩ <;> omega) | (refine ⟨?_, ?_, ?_⟩ <;> first | decide | omega))
def sp_next_day (C : Addr) : Sp := fun vs H Q _ => ∃ (p : Addr) (B : Bk) (d m : Int), vs = [.ref p, .int d, .int m] ∧ BookAt C H p B ∧ B.Ok ∧ 0 ≤ d ∧ d ≤ 2000 ∧ 0 ≤ m ∧ m ≤ 2000 ∧ ∀ H', Same H H' → Q (oV (nextO B.ls B.due m d B.ls.sum.toNat)) H'
def sp_is_promise (K : PySem.W.Frag) : Sp := fun vs H Q _ => ∃ (v : V) (b : Bool), vs = [v] ∧ Vw K H v b ∧ ∀ H', Same H H' → Q (.bl b) H'
def sp_breaker (C : Addr) : Sp := fun vs H Q _ => ∃ (p t : Addr) (B : Bk) (s : Str) (n : Int), vs = [.ref p, .ref t] ∧ BookAt C H p B ∧ B.Ok ∧ H t = some (.tup [.str s, .int n]) ∧ s ∈ (["each", "some"] : List Str) ∧ 0 ≤ n ∧ n ≤ 100 ∧ ∀ H', Same H H' → Q (oV (brkO B.ls B.due s n)) H'
section
variable {P : Program} {w : World} {K : PySem.W.Frag} {mg : Str → Option Value} {base : Heap}
theorem ok_next_day {f C : Addr} {fd : FuncData} (T : Tx K mg) (F : FnP K "next_day" s_next_day f fd) (d_need_book : Dn P w K mg base CX0 1 "need_book" ["value"] (sp_need_book C)) (d_need_number : Dn P w K mg base CX0 3 "need_number" ["value"] sp_need_number) (m_lengths : Dpr P w K mg base CX0 1 C "lengths" (sp_g_lengths C)) (d_days_at : Dn P w K mg base CX0 3 "days_at" ["book", "day"] (sp_days_at C)) :
    FnOk P w K mg base CX0 4 f fd ["book", "day", "days"] (sp_next_day C) := by
  have sc : FnScope ["book", "day", "days", "later"] ["book", "day", "days"] (defScope s_next_day) := ⟨rfl, rfl, rfl, by decide +kernel, rfl, by decide +kernel, by decide +kernel⟩
  refine F.ok sc (by rintro vs H Q E ⟨_, _, _, _, rfl, _⟩; rfl) (fun cdv A outer s H vs Q E hr h => ⟨_, PSs.nox ((pss_cons (ps_expr (pe_fn d_need_book (hr.mono (by decide)) pass0 (pa_cons (pv 0) pa_nil)))
      (pss_cons (ps_expr (pe_fn d_need_number (hr.mono (by decide)) pass0 (pa_cons (pv 1) pa_nil)))
      (pss_cons (ps_expr (pe_fn d_need_number (hr.mono (by decide)) pass0 (pa_cons (pv 2) pa_nil)))
      (pss_cons (ps_for PassesOwn.never rfl (pi_range2 (by rfl) T.b_range (pa_cons (pv 1) (pa_cons (pe_op op_add (pv 1) (pe_callB (c_sumT (K := K) rfl rfl) (by rfl) T.b_sum (by decide +kernel) (pa_cons (pe_propA m_lengths (pv 0) (hr.mono (by decide)) pass0) pa_nil))) pa_nil))) (pg_name (i := 3) sc.nd rfl (by first | exact Or.inl rfl | exact Or.inr rfl)) (pss_one (ps_if (pt_cmpR op_ge (pe_fn d_days_at (hr.mono (by decide)) pass0 (pa_cons (pv 0) (pa_cons (pv 3) pa_nil))) (pv 2) (nomark _)) (pss_one (ps_ret (pv 3))) pss_nil)))
      (pss_one (ps_ret pe_non))))))), ?_⟩)
  obtain ⟨p, B, d, m, rfl, hB, ok, h0, h1, g0, g1, k⟩ := h
  have hs := ok.ls.sum
  have l1 := ok.ls.l1
  have l2 := ok.ls.l2
  walk_at "rd"
  refine ⟨p, B, rfl, hB, ?_⟩
  walk_at "rd"
  refine ⟨d, rfl, h0, h1, ?_⟩
  walk_at "rd"
  refine ⟨m, rfl, g0, g1, ?_⟩
  obtain ⟨dx, tl, kd, lv, kvs, hI⟩ := id hB
  walk_at "rd"
  refine r_kProp hI.i ?_
  refine ⟨p, B, rfl, hB, fun tl htl => ?_⟩
  walk_at "rd"
  refine r_sumT (SqT.of htl) ?_
  walk_at "rd"
  refine r_kForR2 (fun i σ' H' => ∃ y, σ' = [some (.ref p), some (.int d), some (.int m), y] ∧ Same H H' ∧ nextO B.ls B.due m d i = none) (by omega) ⟨_, rfl, Same.refl _, rfl⟩ ?_ ?_
  · rintro i σ' H' hi ⟨y, rfl, e, hno⟩
    walk_at "rd"
    refine ⟨p, B, _, rfl, hB.keep e, ok, fun H2 e2 => ?_⟩
    walk_at "rd"
    refine w_dec (fun g => ?_) (fun g => ?_)
    · walk_at "rd"
      have hx := nextO_at (N := B.ls.sum.toNat) hno (by omega) g
      have hk := k H2 (e.trans e2)
      rw [hx] at hk
      exact hk
    · exact ⟨_, rfl, e.trans e2, by rw [nextO_snoc, hno, if_neg g]; rfl⟩
  · rintro σ' H' ⟨y, rfl, e, hno⟩
    walk_at "rd"
    have hk := k H' e
    rw [show d + B.ls.sum - d = B.ls.sum by omega] at hno
    rw [hno] at hk
    exact hk
theorem ok_is_promise {f : Addr} {fd : FuncData} (T : Tx K mg) (F : FnP K "is_promise" s_is_promise f fd) (d_is_number_in : Dn P w K mg base CX0 2 "is_number_in" ["value", "least", "most"] (sp_is_number_in K)) :
    FnOk P w K mg base CX0 3 f fd ["value"] (sp_is_promise K) := by
  have sc : FnScope ["value"] ["value"] (defScope s_is_promise) := ⟨rfl, rfl, rfl, by decide +kernel, rfl, by decide +kernel, by decide +kernel⟩
  refine F.ok sc (by rintro vs H Q E ⟨_, _, rfl, _⟩; rfl) (fun cdv A outer s H vs Q E hr h => ⟨_, PSs.nox ((pss_cons (ps_if (PW.pt (pw_or (pt_not (pt_val (pe_callB (c_isiK (K := K) rfl) (by rfl) T.b_isinstance (by decide +kernel) (pa_cons (pv 0) (pa_cons (pe_bltn (v := .ty "tuple") (by rfl) T.b_tuple (by decide +kernel) rfl) pa_nil))))) (pw_or (pt_cmpR op_ne (pe_callB (c_lenK (K := K) rfl) (by rfl) T.b_len (by decide +kernel) (pa_cons (pv 0) pa_nil)) pe_int (nomark _)) (pw_or1 (pt_not (pt_val (pe_callB (c_isiK (K := K) rfl) (by rfl) T.b_isinstance (by decide +kernel) (pa_cons (pe_ix (ix_tupK (K := K) rfl) (pv 0) pe_int (fun _ _ => rfl)) (pa_cons (pe_bltn (v := .ty "str") (by rfl) T.b_str (by decide +kernel) rfl) pa_nil))))))))) (pss_one (ps_ret pe_bl)) pss_nil)
      (pss_one (ps_ret (pe_and (pe_cmpR (in_seqK (K := K) rfl) (pe_ix (ix_tupK (K := K) rfl) (pv 0) pe_int (fun _ _ => rfl)) (pe_tup (pa_cons (pe_glob (v := .str "each") (by rfl) T.c_EACH.choose_spec ⟨_, rfl⟩) (pa_cons (pe_glob (v := .str "some") (by rfl) T.c_SOME.choose_spec ⟨_, rfl⟩) pa_nil))) (by rfl)) (pe_one (pe_fn d_is_number_in (hr.mono (by decide)) pass0 (pa_cons (pe_ix (ix_tupK (K := K) rfl) (pv 0) pe_int (fun _ _ => rfl)) (pa_cons pe_int (pa_cons (pe_glob (v := .int 100) (by rfl) T.c_MOST_DAYS.choose_spec ⟨_, rfl⟩) pa_nil)))))))))), ?_⟩)
  obtain ⟨v, b, rfl, hv, k⟩ := h
  walk_at "rd"
  cases hv with
  | ty h1 h2 =>
    refine r_isiT h1 h2 ?_
    walk_at "rd"
    exact k H (Same.refl _)
  | len h1 h2 h3 =>
    refine r_isi_tt h1 ?_
    walk_at "rd"
    refine r_lenT (SqT.of h1) ?_
    walk_at "rd"
    refine w_ndec (fun h => ?_) (fun h => ?_)
    · walk_at "rd"
      exact k H (Same.refl _)
    · exact absurd (by omega) h2
  | fst h1 h2 h3 =>
    refine r_isi_tt h1 ?_
    walk_at "rd"
    refine r_lenT (SqT.of h1) ?_
    walk_at "rd"
    refine w_ndec (fun h => absurd rfl h) (fun _ => ?_)
    walk_at "rd"
    refine r_ixT (SqT.of h1) (at_get (n := 0) rfl rfl) ?_
    walk_at "rd"
    refine r_isiT h2 h3 ?_
    walk_at "rd"
    exact k H (Same.refl _)
  | two h1 h2 =>
    refine r_isi_tt h1 ?_
    walk_at "rd"
    refine r_lenT (SqT.of h1) ?_
    walk_at "rd"
    refine w_ndec (fun h => absurd rfl h) (fun _ => ?_)
    walk_at "rd"
    refine r_ixT (SqT.of h1) (at_get (n := 0) rfl rfl) ?_
    walk_at "rd"
    refine r_ixT (SqT.of h1) (at_get (n := 0) rfl rfl) ?_
    walk_at "rd"
    refine r_kTup fun t1 H1 nt1 e1 ht1 => ?_
    refine r_inTS (xs := ["each", "some"]) (SqT.of ht1) ?_
    walk_at "rd"
    refine w_dec (fun g => ?_) (fun g => ?_)
    · walk_at "rd"
      refine r_ixT (SqT.of (e1 _ _ h1)) (at_get (n := 1) rfl rfl) ?_
      walk_at "rd"
      refine ⟨_, _, 0, 100, rfl, NumV.same e1 h2, ?_⟩
      walk_at "rd"
      have hk := k H1 e1
      unfold vowB at hk
      rw [decide_eq_true g, Bool.true_and] at hk
      exact hk
    · have hk := k H1 e1
      unfold vowB at hk
      rw [decide_eq_false g, Bool.false_and] at hk
      walk_at "rd"
      exact hk
theorem ok_breaker {f C : Addr} {fd : FuncData} (T : Tx K mg) (F : FnP K "breaker" s_breaker f fd) (d_need_book : Dn P w K mg base CX0 1 "need_book" ["value"] (sp_need_book C)) (d_is_promise : Dn P w K mg base CX0 3 "is_promise" ["value"] (sp_is_promise K)) (m_lengths : Dpr P w K mg base CX0 1 C "lengths" (sp_g_lengths C)) (d_round_of : Dn P w K mg base CX0 4 "round_of" ["book"] (sp_round_of C)) :
    FnOk P w K mg base CX0 5 f fd ["book", "promise"] (sp_breaker C) := by
  have sc : FnScope ["book", "promise", "late", "is_kept", "day", "many"] ["book", "promise"] (defScope s_breaker) := ⟨rfl, rfl, rfl, by decide +kernel, rfl, by decide +kernel, by decide +kernel⟩
  refine F.ok sc (by rintro vs H Q E ⟨_, _, _, _, _, rfl, _⟩; rfl) (fun cdv A outer s H vs Q E hr h => ⟨_, PSs.nox ((pss_cons (ps_expr (pe_fn d_need_book (hr.mono (by decide)) pass0 (pa_cons (pv 0) pa_nil)))
      (pss_cons (ps_if (pt_not (pt_val (pe_fn d_is_promise (hr.mono (by decide)) pass0 (pa_cons (pv 1) pa_nil)))) (pss_one ps_never) pss_nil)
      (pss_cons (ps_setLc (i := 2) (own := [("day", 4), ("many", 5)]) (by rfl) sc.nd rfl rfl (sw_true rfl rfl rfl (by decide +kernel)) (pi_enumK (K := K) rfl (by rfl) T.b_enumerate (pa_cons (pe_fn d_round_of (hr.mono (by decide)) pass0 (pa_cons (pv 0) pa_nil)) pa_nil)) (blkOk_by (own := [("day", 4), ("many", 5)]) (N := ["book", "promise", "late", "is_kept", "day", "many"]) (sc := defScope s_breaker) (by decide +kernel)) (fun _ _ _ _ _ => (pg_tupK (K := K) (n := 2) rfl rfl (pgs_cons (pg_name (i := 4) sc.nd rfl (by first | exact Or.inl rfl | exact Or.inr rfl)) (pgs_cons (pg_name (i := 5) sc.nd rfl (by first | exact Or.inl rfl | exact Or.inr rfl)) pgs_nil)))) (fun _ _ _ _ _ => (pts_one (pt_cmpR op_lt (pv 5) (pe_ix (ix_tupK (K := K) rfl) (pv 1) pe_int (fun _ _ => rfl)) (nomark _)))) (fun _ _ _ _ _ => (pv 4)))
      (pss_cons (ps_set (i := 3) sc.nd rfl (by first | exact Or.inl rfl | exact Or.inr rfl) (pe_or (pe_cmpR (eqNilK (K := K) rfl hr.units) (pv 2) (pe_lst pa_nil) (nomark _)) (pe_one (pe_and (pe_cmpR op_eq (pe_ix (ix_tupK (K := K) rfl) (pv 1) pe_int (fun _ _ => rfl)) (pe_glob (v := .str "some") (by rfl) T.c_SOME.choose_spec ⟨_, rfl⟩) (nomark _)) (pe_one (pe_cmpR op_lt (pe_callB (c_lenK (K := K) rfl) (by rfl) T.b_len (by decide +kernel) (pa_cons (pv 2) pa_nil)) (pe_callB (c_sumT (K := K) rfl rfl) (by rfl) T.b_sum (by decide +kernel) (pa_cons (pe_propA m_lengths (pv 0) (hr.mono (by decide)) pass0) pa_nil)) (nomark _)))))))
      (pss_one (ps_ret (pe_ifExp (pt_val (pv 3)) pe_non (pe_ix (ix_listK (K := K) rfl) (pv 2) pe_int (fun _ _ => rfl)))))))))), ?_⟩)
  obtain ⟨p, t, B, s, n, rfl, hB, ok, ht, hs, n0, n1, k⟩ := h
  have hsum := ok.ls.sum
  have l1 := ok.ls.l1
  have l2 := ok.ls.l2
  walk_at "rd"
  refine ⟨p, B, rfl, hB, ?_⟩
  walk_at "rd"
  refine ⟨.ref t, _, rfl, Vw.two ht (.int n), fun H1 e1 => ?_⟩
  have hv : vowB s (some n) = true := by
    show (decide (s ∈ (["each", "some"] : List Str)) && (decide (0 ≤ n) && decide (n ≤ 100))) = true
    rw [decide_eq_true hs, decide_eq_true n0, decide_eq_true n1]
    rfl
  rw [hv]
  walk_at "rd"
  refine ⟨p, B, rfl, hB.keep e1, ok, fun rl H2 nrl e2 hrl => ?_⟩
  walk_at "rd"
  refine r_kLcEl (SqL.of hrl) (fun Da i H' => Same H2 H' ∧ H' Da = some (.lst ((lateL B.ls B.due n i).map V.int))) (fun Da H' _ e h => ⟨e, h⟩) (fun Da i H' h => SqL.of (h.1 _ _ hrl)) ?_ ?_
  · rintro Da i x T' H3 H4 hD hx ⟨e3, hDa⟩ nT e4 hT
    have hi := (List.getElem?_eq_some_iff.mp hx).1
    rw [List.length_map, show rnd B.ls B.due = rndL B.ls B.due B.ls.sum.toNat from rfl, rndL_len] at hi
    obtain rfl : x = V.int (fdL B.ls B.due (i : Int)) := by
      rw [show rnd B.ls B.due = rndL B.ls B.due B.ls.sum.toNat from rfl] at hx
      unfold rndL at hx
      rw [List.getElem?_map, List.getElem?_map, List.getElem?_range hi] at hx
      exact (Option.some.inj hx).symm
    have hl := lateL_len B.ls B.due n i
    have e34 := e3.trans e4
    have ht4 := e34 _ _ (e2 _ _ (e1 _ _ ht))
    walk_at "rd"
    refine r_ixT (SqT.of ht4) (at_get (n := 1) rfl rfl) ?_
    walk_at "rd"
    refine w_dec (fun g => ?_) (fun g => ?_)
    · walk_at "rd"
      refine r_kLcE (e4 _ _ hDa) (by rw [List.length_map]; omega) fun H5 b5 h5 => ⟨Same.mut e34 b5 hD, ?_⟩
      rw [lateL_snoc, if_pos g, List.map_append]
      exact h5
    · exact ⟨e34, by rw [lateL_snoc, if_neg g, List.append_nil]; exact e4 _ _ hDa⟩
  · rintro la H3 nla ⟨e3, hla⟩
    rw [List.length_map, show rnd B.ls B.due = rndL B.ls B.due B.ls.sum.toNat from rfl, rndL_len] at hla
    walk_at "rd"
    refine r_kLst fun a3 H4 na3 e4 ha3 => ?_
    have hla4 := e4 _ _ hla
    refine r_eqNilA (SqL.of hla4) (SqL.of ha3) ?_
    have e14 := (e1.trans e2).trans (e3.trans e4)
    have hk : ∀ o, brkO B.ls B.due s n = o → ∀ H', Same H4 H' → Q (oV o) H' := fun o ho H' e' => by rw [← ho]; exact k H' (e14.trans e')
    have ht4 := e14 _ _ ht
    have hlen := lateL_len B.ls B.due n B.ls.sum.toNat
    walk_at "rd"
    refine w_dec (fun g => ?_) (fun g => ?_)
    · walk_at "rd"
      refine hk none ?_ _ (Same.refl _)
      have g' : lateL B.ls B.due n B.ls.sum.toNat = [] := List.map_eq_nil_iff.mp g
      unfold brkO
      rw [decide_eq_true g', Bool.true_or, if_pos rfl]
    · have g' : lateL B.ls B.due n B.ls.sum.toNat ≠ [] := fun h => g (by rw [h]; rfl)
      obtain ⟨x, xs, hxs⟩ := List.exists_cons_of_ne_nil g'
      have hfin : ∀ H', Same H4 H' → brkO B.ls B.due s n = some x → rIxL K (.ref la) (.int 0) H' fun v H2 => Q v H2 := fun H' e' ho => by
        have h0 := e' _ _ hla4
        rw [hxs] at h0
        exact r_ixL (SqL.of h0) (at_get (n := 0) rfl rfl) (hk _ ho H' e')
      walk_at "rd"
      refine r_ixT (SqT.of ht4) (at_get (n := 0) rfl rfl) ?_
      walk_at "rd"
      refine w_dec (fun g2 => ?_) (fun g2 => ?_)
      · walk_at "rd"
        refine r_lenL (SqL.of hla4) ?_
        rw [List.length_map]
        obtain ⟨dx, tl, kd, lv, kvs, hI⟩ := hB.keep e14
        walk_at "rd"
        refine r_kProp hI.i ?_
        refine ⟨p, B, rfl, hB.keep e14, fun tl htl => ?_⟩
        walk_at "rd"
        refine r_sumT (SqT.of htl) ?_
        walk_at "rd"
        refine w_dec (fun g3 => ?_) (fun g3 => ?_)
        · walk_at "rd"
          refine hk none ?_ _ (Same.refl _)
          unfold brkO
          rw [decide_eq_false g', decide_eq_true g2, decide_eq_true g3]
          rfl
        · walk_at "rd"
          refine hfin _ (Same.refl _) ?_
          unfold brkO
          rw [decide_eq_false g', decide_eq_true g2, decide_eq_false g3, hxs]
          rfl
      · walk_at "rd"
        refine hfin _ (Same.refl _) ?_
        unfold brkO
        rw [decide_eq_false g', decide_eq_false g2, hxs]
        rfl
end
end Wp
set_option Elab.async false
set_option linter.all false
set_option maxRecDepth 100000
set_option maxHeartbeats 4000000
/-! Promises of the law. -/
namespace Wp
open PySem PySem.Spec PyProof.Rows L2
abbrev s__law_can_stand : Stmt := topS 52
abbrev s__law_is_vow : Stmt := topS 53
abbrev s__law_broken : Stmt := topS 54
abbrev s__law_odd : Stmt := topS 55
local macro_rules | `(tactic| walk_at "val") => `(tactic| assumption)
local macro_rules | `(tactic| walk_at "rd1") => `(tactic| first
  | with_reducible refine r_seq ?_ | with_reducible refine r_next ?_ | with_reducible refine r_if ?_ | with_reducible refine r_asg ?_ | with_reducible refine r_gname ?_
  | with_reducible refine r_ret ?_ | with_reducible refine r_retN ?_ | with_reducible refine r_drop ?_ | with_reducible refine r_par ?_ | with_reducible refine r_kPar ?_
  | ((with_reducible refine' r_var ?hv ?_); (case hv => exact rfl)) | with_reducible refine r_c ?_ | with_reducible refine r_nil ?_ | with_reducible refine r_cons ?_
  | with_reducible refine r_fn ?_ | with_reducible refine r_cb ?_ | with_reducible refine r_op ?_ | with_reducible refine r_un ?_ | with_reducible refine r_I0 ?_
  | with_reducible refine r_pow5 ?_ | with_reducible refine r_pow6 ?_ | with_reducible refine r_pow7 ?_ | with_reducible refine r_pow9 ?_ | with_reducible refine r_pow18 ?_ | with_reducible refine r_pow20 ?_ | with_reducible refine r_pow30 ?_
  | with_reducible refine r_isN_non ?_ | with_reducible refine r_isN_ref ?_ | with_reducible refine r_isN_int ?_ | with_reducible refine r_isN_str ?_ | with_reducible refine r_isN_bl ?_ | with_reducible refine r_notN_non ?_ | with_reducible refine r_notN_ref ?_ | with_reducible refine r_notN_int ?_ | with_reducible refine r_notN_str ?_ | with_reducible refine r_notN_bl ?_
  | ((with_reducible refine r_I ?hc ?_); (case hc => walk_at "side")) | with_reducible refine r_U ?_
  | with_reducible refine r_eqI ?_ | with_reducible refine r_neI ?_ | with_reducible refine r_eqS ?_ | with_reducible refine r_neS ?_ | with_reducible refine r_eqB ?_ | with_reducible refine r_neB ?_
  | with_reducible refine r_chain ?_ | with_reducible refine r_test ?_ | with_reducible refine r_tB ?_ | with_reducible refine r_kTest ?_ | with_reducible refine r_not ?_
  | with_reducible refine r_and ?_ | with_reducible refine r_or ?_ | with_reducible refine r_tif ?_ | with_reducible refine r_andV ?_ | with_reducible refine r_orV ?_ | with_reducible refine r_notV ?_
  | with_reducible refine r_kAndV ?_ | with_reducible refine r_kOrV ?_ | with_reducible refine r_kNotV ?_
  | with_reducible refine w_T ?_ | with_reducible refine w_F ?_ | with_reducible refine w_NT ?_ | with_reducible refine w_NF ?_
  | with_reducible refine r_tup ?_ | with_reducible refine r_lst ?_ | with_reducible refine r_fld ?_ | with_reducible refine r_prop ?_ | ((with_reducible refine' r_aug ?h1 ?_); (case h1 => exact rfl)) | with_reducible refine r_ipI ?_ | with_reducible refine r_dget ?_ | with_reducible refine r_dput ?_ | with_reducible refine r_bm ?_
  | ((with_reducible refine' r_kDGetS ?h1 ?h2 ?_); (case h1 => assumption); (case h2 => walk_at "val"))
  | ((with_reducible refine' r_kBML ?h1 ?_); (case h1 => assumption))
  | with_reducible refine r_forL ?_ | with_reducible refine r_forR1 ?_ | with_reducible refine r_forR2 ?_ | with_reducible refine r_forT ?_ | with_reducible refine r_lcL ?_ | with_reducible refine r_lcR1 ?_
  | ((with_reducible refine r_kLcG ?hw ?_); (case hw => exact rfl)) | with_reducible refine r_kLcT ?_ | with_reducible refine r_yes ?_
  | with_reducible refine r_pnil ?_ | with_reducible refine r_pcons ?_
  | with_reducible refine r_fnK ?_ | ((with_reducible refine r_kFnK ?hl ?_); (case hl => exact rfl))
  | with_reducible refine r_isi_ii ?_ | with_reducible refine r_isi_ib ?_ | with_reducible refine r_isi_bi ?_ | with_reducible refine r_isi_bb ?_ | with_reducible refine r_isi_ss ?_ | with_reducible refine r_isi_is ?_ | with_reducible refine r_isi_it ?_
  | ((with_reducible refine' r_isi_tt ?h1 ?_); (case h1 => assumption))
  | with_reducible refine r_sfld ?_ | with_reducible refine r_gnil ?_ | with_reducible refine r_gcons ?_
  | ((with_reducible refine' r_gtup ?h1 ?h2 ?_); (case h1 => exact SqT.of (by assumption)); (case h2 => exact rfl))
  | with_reducible refine r_sl ?_ | with_reducible refine r_noPart ?_ | with_reducible refine r_part ?_ | with_reducible refine r_kPart ?_ | with_reducible refine r_m1 ?_ | with_reducible refine r_kM1 ?_ | with_reducible refine r_forS ?_ | with_reducible refine r_lcS ?_ | with_reducible refine r_lcTu ?_ | with_reducible refine r_lcK ?_ | with_reducible refine r_dcL ?_ | with_reducible refine r_dcK ?_ | with_reducible refine r_lc2L ?_ | with_reducible refine r_kLc2TL ?_ | with_reducible refine r_dcEn ?_ | with_reducible refine r_gslc ?_ | with_reducible refine r_lcEn ?_ | with_reducible refine r_lcEl ?_ | with_reducible refine r_lcR2 ?_ | with_reducible refine r_rg1 ?_ | with_reducible refine r_forET ?_ | with_reducible refine r_lenD ?_
  | ((with_reducible refine r_kDcG ?hw ?_); (case hw => exact rfl)) | with_reducible refine r_kDcT ?_
  | with_reducible refine r_fldaug ?_ | with_reducible refine r_daug ?_ | with_reducible refine r_rAdd ?_ | with_reducible refine r_rSub ?_ | with_reducible refine r_ddel ?_ | with_reducible refine r_bmF ?_ | with_reducible refine r_dget2 ?_ | with_reducible refine r_listItems ?_ | with_reducible refine r_bm0 ?_ | with_reducible refine r_lc2E ?_ | ((with_reducible refine r_kLc2G ?hw ?_); (case hw => exact rfl)) | with_reducible refine r_kLc2T ?_ | with_reducible refine r_forE ?_ | with_reducible refine r_orT ?_ | with_reducible refine r_din ?_ | with_reducible refine r_augS ?_ | with_reducible refine r_dnotin ?_ | with_reducible refine r_lcIT ?_ | with_reducible refine r_cont ?_ | with_reducible refine r_meth ?_ | with_reducible refine r_frz ?_ | with_reducible refine r_par3 ?_ | with_reducible refine r_kPar3 ?_ | with_reducible refine r_dz ?_ | with_reducible refine r_revL ?_ | with_reducible refine r_star ?_ | with_reducible refine r_int1 ?_ | with_reducible refine r_int1b ?_ | with_reducible refine r_min2 ?_ | with_reducible refine r_max2 ?_ | with_reducible refine r_gsub ?_)
local macro_rules | `(tactic| walk_at "rd") => `(tactic| repeat walk_at "rd1")
local macro_rules | `(tactic| walk_at "side") => `(tactic| first | assumption | exact Or.inr ⟨by decide, by decide⟩ | exact Or.inl ⟨by decide, by decide⟩ | (constructor <;> omega) | omega | decide | (refine Or.inl ⟨?_, ?_⟩ <;> omega) | (refine Or.inr ⟨?_, ?_⟩ <;> omega) | (refine ⟨?_, ?_, ?_⟩ <;> first | decide | omega))
local macro_rules | `(tactic| walk_at "val") => `(tactic| first | exact mv1 | exact mv2 | exact mv3 | exact mv4 | exact mv5 | exact mv6)
def sp_can_stand : Sp := fun vs H Q _ => ∃ (l p : Addr) (B : Bk) (d : Int), vs = [.ref p, .int d] ∧ Mdl l H p B ∧ LsOk B.ls ∧ ∀ H', Same H H' → Q (.int (fdL B.ls B.due d)) H'
def sp_broken : Sp := fun vs H Q _ => ∃ (l p t : Addr) (B : Bk) (s : Str) (n : Int), vs = [.ref p, .ref t] ∧ Mdl l H p B ∧ LsOk B.ls ∧ H t = some (.tup [.str s, .int n]) ∧ ∀ H', Same H H' → Q (oV (brkO B.ls B.due s n)) H'
def sp_odd : Sp := fun vs H Q _ => ∃ (st l c : Addr) (cs : List Int) (n : Int), vs = [.ref st] ∧ n ≤ 8796093022208 ∧ DS st l c cs n H ∧ ∀ x H', Sh st l H' x → DS st l c cs (n + 1) H' → Kp st l H H' → Q x H'
theorem fcons {α : Type} {p : α → Prop} {x : α} {xs : List α} (h : p x) (hs : ∀ y ∈ xs, p y) : ∀ y ∈ x :: xs, p y := List.forall_mem_cons.mpr ⟨h, hs⟩
theorem fapp {α : Type} {p : α → Prop} {xs ys : List α} (h : ∀ y ∈ xs, p y) (hs : ∀ y ∈ ys, p y) : ∀ y ∈ xs ++ ys, p y := List.forall_mem_append.mpr ⟨h, hs⟩
theorem r_dnewN2 {σ : L2.St} {H : Hp} {Q : VK} (q : ∀ p H', H p = none → Same H H' → H' p = some (.dK []) → Q (.ref p) H') : tDNewK σ H Q := fun p hp => q p _ hp (Same.new hp) upd_same
section
variable {P : Program} {w : World} {K : PySem.W.Frag} {mg : Str → Option Value} {base : Heap}
theorem ok__law_can_stand {f : Addr} {fd : FuncData} (T : Tx K mg) (F : FnP K "_law_can_stand" s__law_can_stand f fd) (d__law_month : Dn P w K mg base CX0 2 "_law_month" ["_law_model_here", "_law_date"] sp_lmonth) (d__law_due : Dn P w K mg base CX0 2 "_law_due" ["_law_model_here", "_law_mon"] sp_ldue) :
    FnOk P w K mg base CX0 3 f fd ["_law_model_here", "_law_date"] sp_can_stand := by
  have sc : FnScope ["_law_model_here", "_law_date"] ["_law_model_here", "_law_date"] (defScope s__law_can_stand) := ⟨rfl, rfl, rfl, by decide +kernel, rfl, by decide +kernel, by decide +kernel⟩
  refine F.ok sc (by rintro vs H Q E ⟨_, _, _, _, rfl, _⟩; rfl) (fun cdv A outer s H vs Q E hr h => ⟨_, PSs.nox ((pss_one (ps_ret (pe_op op_sub (pe_fn d__law_due (hr.mono (by decide)) pass0 (pa_cons (pv 0) (pa_cons (pe_fn d__law_month (hr.mono (by decide)) pass0 (pa_cons (pv 0) (pa_cons (pv 1) pa_nil))) pa_nil))) (pv 1))))), ?_⟩)
  obtain ⟨l, p, B, d, rfl, hM, ok, k⟩ := h
  walk_at "rd"
  refine ⟨l, p, B, d, rfl, hM, ok, fun H1 e1 => ?_⟩
  walk_at "rd"
  refine ⟨l, p, B, _, rfl, hM.keep e1, ok, fun H2 e2 => ?_⟩
  walk_at "rd"
  exact k H2 (e1.trans e2)
theorem ok__law_is_vow {f : Addr} {fd : FuncData} (T : Tx K mg) (F : FnP K "_law_is_vow" s__law_is_vow f fd) : FnOk P w K mg base CX0 1 f fd ["_law_thing"] (sp_is_promise K) := by
  have sc : FnScope ["_law_thing", "_law_is_amount"] ["_law_thing"] (defScope s__law_is_vow) := ⟨rfl, rfl, rfl, by decide +kernel, rfl, by decide +kernel, by decide +kernel⟩
  refine F.ok sc (by rintro vs H Q E ⟨_, _, rfl, _⟩; rfl) (fun cdv A outer s H vs Q E hr h => ⟨_, PSs.nox ((pss_cons (ps_if (PW.pt (pw_or (pt_not (pt_val (pe_callB (c_isiK (K := K) rfl) (by rfl) T.b_isinstance (by decide +kernel) (pa_cons (pv 0) (pa_cons (pe_bltn (v := .ty "tuple") (by rfl) T.b_tuple (by decide +kernel) rfl) pa_nil))))) (pw_or (pt_cmpR op_ne (pe_callB (c_lenK (K := K) rfl) (by rfl) T.b_len (by decide +kernel) (pa_cons (pv 0) pa_nil)) pe_int (nomark _)) (pw_or1 (pt_not (pt_val (pe_callB (c_isiK (K := K) rfl) (by rfl) T.b_isinstance (by decide +kernel) (pa_cons (pe_ix (ix_tupK (K := K) rfl) (pv 0) pe_int (fun _ _ => rfl)) (pa_cons (pe_bltn (v := .ty "str") (by rfl) T.b_str (by decide +kernel) rfl) pa_nil))))))))) (pss_one (ps_ret pe_bl)) pss_nil)
      (pss_cons (ps_set (i := 1) sc.nd rfl (by first | exact Or.inl rfl | exact Or.inr rfl) (pe_and (pe_callB (c_isiK (K := K) rfl) (by rfl) T.b_isinstance (by decide +kernel) (pa_cons (pe_ix (ix_tupK (K := K) rfl) (pv 0) pe_int (fun _ _ => rfl)) (pa_cons (pe_bltn (v := .ty "int") (by rfl) T.b_int (by decide +kernel) rfl) pa_nil))) (pe_one (pe_not (pe_callB (c_isiK (K := K) rfl) (by rfl) T.b_isinstance (by decide +kernel) (pa_cons (pe_ix (ix_tupK (K := K) rfl) (pv 0) pe_int (fun _ _ => rfl)) (pa_cons (pe_bltn (v := .ty "bool") (by rfl) T.b_bool (by decide +kernel) rfl) pa_nil)))))))
      (pss_one (ps_ret (pe_and (pe_cmpR (in_seqK (K := K) rfl) (pe_ix (ix_tupK (K := K) rfl) (pv 0) pe_int (fun _ _ => rfl)) (pe_lst (pa_cons pe_str (pa_cons pe_str pa_nil))) (by rfl)) (pe_and (pv 1) (pe_one (pe_chain op_le op_le pe_int (pe_ix (ix_tupK (K := K) rfl) (pv 0) pe_int (fun _ _ => rfl)) pe_int))))))))), ?_⟩)
  obtain ⟨v, b, rfl, hv, k⟩ := h
  walk_at "rd"
  cases hv with
  | ty h1 h2 =>
    refine r_isiT h1 h2 ?_
    walk_at "rd"
    exact k H (Same.refl _)
  | len h1 h2 h3 =>
    refine r_isi_tt h1 ?_
    walk_at "rd"
    refine r_lenT (SqT.of h1) ?_
    walk_at "rd"
    refine w_ndec (fun h => ?_) (fun h => ?_)
    · walk_at "rd"
      exact k H (Same.refl _)
    · exact absurd (by omega) h2
  | fst h1 h2 h3 =>
    refine r_isi_tt h1 ?_
    walk_at "rd"
    refine r_lenT (SqT.of h1) ?_
    walk_at "rd"
    refine w_ndec (fun h => absurd rfl h) (fun _ => ?_)
    walk_at "rd"
    refine r_ixT (SqT.of h1) (at_get (n := 0) rfl rfl) ?_
    walk_at "rd"
    refine r_isiT h2 h3 ?_
    walk_at "rd"
    exact k H (Same.refl _)
  | @two _ s y o h1 h2 =>
    refine r_isi_tt h1 ?_
    walk_at "rd"
    refine r_lenT (SqT.of h1) ?_
    walk_at "rd"
    refine w_ndec (fun h => absurd rfl h) (fun _ => ?_)
    walk_at "rd"
    refine r_ixT (SqT.of h1) (at_get (n := 0) rfl rfl) ?_
    walk_at "rd"
    refine r_ixT (SqT.of h1) (at_get (n := 1) rfl rfl) ?_
    walk_at "rd"
    cases h2 with
    | int i =>
      walk_at "rd"
      refine r_ixT (SqT.of h1) (at_get (n := 1) rfl rfl) ?_
      walk_at "rd"
      refine r_ixT (SqT.of h1) (at_get (n := 0) rfl rfl) ?_
      walk_at "rd"
      refine r_kLst fun a3 H1 na3 e1 ha3 => ?_
      refine r_inS (xs := ["each", "some"]) (SqL.of ha3) ?_
      have hk : ∀ b, vowB s (some i) = b → ∀ H', Same H1 H' → Q (.bl b) H' := fun b hb H' e' => by rw [← hb]; exact k H' (e1.trans e')
      have hi1 := e1 _ _ h1
      walk_at "rd"
      refine w_dec (fun g => ?_) (fun g => ?_)
      · walk_at "rd"
        refine r_ixT (SqT.of hi1) (at_get (n := 1) rfl rfl) ?_
        walk_at "rd"
        have hv1 : vowB s (some i) = (decide (0 ≤ i) && decide (i ≤ 100)) := by
          show (decide (s ∈ (["each", "some"] : List Str)) && (decide (0 ≤ i) && decide (i ≤ 100))) = _
          rw [decide_eq_true g, Bool.true_and]
        refine r_kChain (fun g1 => ?_) (fun g1 => ?_)
        · walk_at "rd"
          exact hk _ (by rw [hv1, g1, Bool.true_and]) _ (Same.refl _)
        · exact hk _ (by rw [hv1, g1, Bool.false_and]) _ (Same.refl _)
      · walk_at "rd"
        exact hk _ (by unfold vowB; rw [decide_eq_false g, Bool.false_and]) _ (Same.refl _)
    | @no _ t b1 b2 ht hb1 hb2 hb =>
      have hk : ∀ H', Same H H' → Q (.bl false) H' := fun H' e' => by
        have := k H' e'
        have hv0 : vowB s none = false := by
          unfold vowB inB
          rw [Bool.and_false]
        rwa [hv0] at this
      refine r_isi (.ty "int") ht hb1 ?_
      walk_at "rd"
      cases b1 with
      | false =>
        walk_at "rd"
        refine r_ixT (SqT.of h1) (at_get (n := 0) rfl rfl) ?_
        walk_at "rd"
        refine r_kLst fun a3 H1 na3 e1 ha3 => ?_
        refine r_inS (xs := ["each", "some"]) (SqL.of ha3) ?_
        walk_at "rd"
        refine w_dec (fun g => ?_) (fun g => ?_)
        · walk_at "rd"
          exact hk _ e1
        · walk_at "rd"
          exact hk _ e1
      | true =>
        have hb2' : b2 = true := by cases b2 with
          | true => rfl
          | false => exact absurd hb (by decide)
        subst hb2'
        walk_at "rd"
        refine r_ixT (SqT.of h1) (at_get (n := 1) rfl rfl) ?_
        walk_at "rd"
        refine r_isi (.ty "bool") ht hb2 ?_
        walk_at "rd"
        refine r_ixT (SqT.of h1) (at_get (n := 0) rfl rfl) ?_
        walk_at "rd"
        refine r_kLst fun a3 H1 na3 e1 ha3 => ?_
        refine r_inS (xs := ["each", "some"]) (SqL.of ha3) ?_
        walk_at "rd"
        refine w_dec (fun g => ?_) (fun g => ?_)
        · walk_at "rd"
          exact hk _ e1
        · walk_at "rd"
          exact hk _ e1
theorem ok__law_broken {f : Addr} {fd : FuncData} (T : Tx K mg) (F : FnP K "_law_broken" s__law_broken f fd) (d__law_can_stand : Dn P w K mg base CX0 3 "_law_can_stand" ["_law_model_here", "_law_date"] sp_can_stand) :
    FnOk P w K mg base CX0 4 f fd ["_law_model_here", "_law_vow"] sp_broken := by
  have sc : FnScope ["_law_model_here", "_law_vow", "_law_every", "_law_late", "_law_date"] ["_law_model_here", "_law_vow"] (defScope s__law_broken) := ⟨rfl, rfl, rfl, by decide +kernel, rfl, by decide +kernel, by decide +kernel⟩
  refine F.ok sc (by rintro vs H Q E ⟨_, _, _, _, _, _, rfl, _⟩; rfl) (fun cdv A outer s H vs Q E hr h => ⟨_, PSs.nox ((pss_cons (ps_set (i := 2) sc.nd rfl (by first | exact Or.inl rfl | exact Or.inr rfl) (pe_listRg1 (by rfl) (by rfl) T.b_list (by rfl) T.b_range (pa_cons (pe_callB (c_sumK (K := K) rfl rfl) (by rfl) T.b_sum (by decide +kernel) (pa_cons (pe_dget (hu_of hr) (pv 0) pe_str (fun _ _ => rfl)) pa_nil)) pa_nil)))
      (pss_cons (ps_setLc (i := 3) (own := [("_law_date", 4)]) (by rfl) sc.nd rfl rfl (sw_true rfl rfl rfl (by decide +kernel)) (pi_listK (K := K) rfl (pv 2)) (blkOk_by (own := [("_law_date", 4)]) (N := ["_law_model_here", "_law_vow", "_law_every", "_law_late", "_law_date"]) (sc := defScope s__law_broken) (by decide +kernel)) (fun _ _ _ _ _ => (pg_name (i := 4) sc.nd rfl (by first | exact Or.inl rfl | exact Or.inr rfl))) (fun _ _ _ _ _ => (pts_one (pt_cmpR op_lt (pe_fn d__law_can_stand (hr.mono (by decide)) pass0 (pa_cons (pv 0) (pa_cons (pv 4) pa_nil))) (pe_ix (ix_tupK (K := K) rfl) (pv 1) pe_int (fun _ _ => rfl)) (nomark _)))) (fun _ _ _ _ _ => (pv 4)))
      (pss_cons (ps_if (PW.pt (pw_or (pt_cmpR (eqNilK (K := K) rfl hr.units) (pv 3) (pe_lst pa_nil) (nomark _)) (pw_or1 (PW.pt (pw_and (pt_cmpR op_eq (pe_ix (ix_tupK (K := K) rfl) (pv 1) pe_int (fun _ _ => rfl)) pe_str (nomark _)) (pw_and1 (pt_cmpR op_lt (pe_callB (c_lenK (K := K) rfl) (by rfl) T.b_len (by decide +kernel) (pa_cons (pv 3) pa_nil)) (pe_callB (c_lenK (K := K) rfl) (by rfl) T.b_len (by decide +kernel) (pa_cons (pv 2) pa_nil)) (nomark _)))))))) (pss_one (ps_ret pe_non)) pss_nil)
      (pss_one (ps_ret (pe_ix (ix_listK (K := K) rfl) (pv 3) pe_int (fun _ _ => rfl)))))))), ?_⟩)
  obtain ⟨l, p, t, B, s, n, rfl, hM, ok, ht, k⟩ := h
  have hs := ok.sum
  have l1 := ok.l1
  have l2 := ok.l2
  obtain ⟨ad, kd, lv, kvs, hI⟩ := id hM
  have hp := hI.i
  walk_at "rd"
  refine r_sum (SqL.of hI.l) ?_
  walk_at "rd"
  refine r_kRg1 (by omega) (by omega) fun ev H1 nev e1 hev => ?_
  walk_at "rd"
  refine r_kLcL (xs := (List.range B.ls.sum.toNat).map fun k : Nat => V.int (k : Int)) (fun Da i H' => Same H1 H' ∧ H' Da = some (.lst ((lateL B.ls B.due n i).map V.int))) (SqL.of hev) (fun Da H' _ e h => ⟨e, h⟩) (fun Da i H' h => SqL.of (h.1 _ _ hev)) ?_ ?_
  · rintro Da i x H' hD hx ⟨e2, hDa⟩
    have hi := (List.getElem?_eq_some_iff.mp hx).1
    rw [List.length_map, List.length_range] at hi
    obtain rfl : x = V.int (i : Int) := by
      rw [List.getElem?_map, List.getElem?_range hi] at hx
      exact (Option.some.inj hx).symm
    have hl := lateL_len B.ls B.due n i
    have ht2 := e2 _ _ (e1 _ _ ht)
    walk_at "rd"
    refine ⟨l, p, B, _, rfl, hM.keep (e1.trans e2), ok, fun H3 e3 => ?_⟩
    walk_at "rd"
    refine r_ixT (SqT.of (e3 _ _ ht2)) (at_get (n := 1) rfl rfl) ?_
    walk_at "rd"
    refine w_dec (fun g => ?_) (fun g => ?_)
    · walk_at "rd"
      refine r_kLcE (e3 _ _ hDa) (by rw [List.length_map]; omega) fun H4 b4 h4 => ⟨Same.mut (e2.trans e3) b4 hD, ?_⟩
      rw [lateL_snoc, if_pos g, List.map_append]
      exact h4
    · exact ⟨e2.trans e3, by rw [lateL_snoc, if_neg g, List.append_nil]; exact e3 _ _ hDa⟩
  · rintro la H2 nla ⟨e2, hla⟩
    rw [List.length_map, List.length_range] at hla
    walk_at "rd"
    refine r_kLst fun a3 H4 na3 e4 ha3 => ?_
    have hla4 := e4 _ _ hla
    refine r_eqNilA (SqL.of hla4) (SqL.of ha3) ?_
    have e14 := (e1.trans e2).trans e4
    have hk : ∀ o, brkO B.ls B.due s n = o → ∀ H', Same H4 H' → Q (oV o) H' := fun o ho H' e' => by rw [← ho]; exact k H' (e14.trans e')
    have ht4 := e14 _ _ ht
    have hev4 := e4 _ _ (e2 _ _ hev)
    have hlen := lateL_len B.ls B.due n B.ls.sum.toNat
    walk_at "rd"
    refine w_dec (fun g => ?_) (fun g => ?_)
    · walk_at "rd"
      refine hk none ?_ _ (Same.refl _)
      have g' : lateL B.ls B.due n B.ls.sum.toNat = [] := List.map_eq_nil_iff.mp g
      unfold brkO
      rw [decide_eq_true g', Bool.true_or, if_pos rfl]
    · have g' : lateL B.ls B.due n B.ls.sum.toNat ≠ [] := fun h => g (by rw [h]; rfl)
      obtain ⟨x, xs, hxs⟩ := List.exists_cons_of_ne_nil g'
      have hfin : ∀ H', Same H4 H' → brkO B.ls B.due s n = some x → rIxL K (.ref la) (.int 0) H' fun v H2 => Q v H2 := fun H' e' ho => by
        have h0 := e' _ _ hla4
        rw [hxs] at h0
        exact r_ixL (SqL.of h0) (at_get (n := 0) rfl rfl) (hk _ ho H' e')
      walk_at "rd"
      refine r_ixT (SqT.of ht4) (at_get (n := 0) rfl rfl) ?_
      walk_at "rd"
      refine w_dec (fun g2 => ?_) (fun g2 => ?_)
      · walk_at "rd"
        refine r_lenL (SqL.of hla4) ?_
        rw [List.length_map]
        walk_at "rd"
        refine r_lenL (SqL.of hev4) ?_
        rw [List.length_map, List.length_range]
        walk_at "rd"
        refine w_dec (fun g3 => ?_) (fun g3 => ?_)
        · walk_at "rd"
          refine hk none ?_ _ (Same.refl _)
          unfold brkO
          rw [decide_eq_false g', decide_eq_true g2, decide_eq_true (show ((lateL B.ls B.due n B.ls.sum.toNat).length : Int) < B.ls.sum by omega)]
          rfl
        · walk_at "rd"
          refine hfin _ (Same.refl _) ?_
          unfold brkO
          rw [decide_eq_false g', decide_eq_true g2, decide_eq_false (show ¬ ((lateL B.ls B.due n B.ls.sum.toNat).length : Int) < B.ls.sum by omega), hxs]
          rfl
      · walk_at "rd"
        refine hfin _ (Same.refl _) ?_
        unfold brkO
        rw [decide_eq_false g', decide_eq_false g2, hxs]
        rfl
theorem ok__law_odd {f : Addr} {fd : FuncData} (T : Tx K mg) (F : FnP K "_law_odd" s__law_odd f fd) (d__law_pick : Dn P w K mg base CX0 3 "_law_pick" ["_law_state", "_law_some_here"] sp_pick) : FnOk P w K mg base CX0 4 f fd ["_law_state"] sp_odd := by
  have sc : FnScope ["_law_state", "_law_some_here"] ["_law_state"] (defScope s__law_odd) := ⟨rfl, rfl, rfl, by decide +kernel, rfl, by decide +kernel, by decide +kernel⟩
  refine F.ok sc (by rintro vs H Q E ⟨_, _, _, _, _, rfl, _⟩; rfl) (fun cdv A outer s H vs Q E hr h => ⟨_, PSs.nox ((pss_cons (ps_set (i := 1) sc.nd rfl (by first | exact Or.inl rfl | exact Or.inr rfl) (pe_lst (pa_cons pe_non (pa_cons pe_bl (pa_cons pe_bl (pa_cons pe_int (pa_cons pe_int (pa_cons (pe_un un_neg pe_int) (pa_cons pe_int (pa_cons (pe_op op_pow pe_int pe_int) (pa_cons pe_str (pa_cons pe_str (pa_cons pe_str (pa_cons pe_str (pa_cons (pe_tup pa_nil) (pa_cons (pe_tup (pa_cons pe_int pa_nil)) (pa_cons (pe_lst pa_nil) (pa_cons (pe_lst (pa_cons pe_int pa_nil)) (pa_cons pe_dnewK (pa_cons (pe_disp (pps_cons pe_int pe_int pps_nil) (by rfl) (by rfl) (fun z => by cases z) (by decide)) pa_nil))))))))))))))))))))
      (pss_cons (ps_set (i := 1) sc.nd rfl (by first | exact Or.inl rfl | exact Or.inr rfl) (pe_op op_cat (pv 1) (pe_lst (pa_cons (pe_tup (pa_cons pe_str (pa_cons pe_int pa_nil))) (pa_cons (pe_tup (pa_cons pe_str pa_nil)) (pa_cons pe_str (pa_cons (pe_tup (pa_cons pe_str (pa_cons pe_int pa_nil))) (pa_cons (pe_tup (pa_cons (pe_tup pa_nil) (pa_cons pe_int pa_nil))) (pa_cons (pe_tup (pa_cons (pe_lst pa_nil) (pa_cons pe_int pa_nil))) (pa_cons pe_int (pa_cons pe_int pa_nil)))))))))))
      (pss_one (ps_ret (pe_fn d__law_pick (hr.mono (by decide)) pass0 (pa_cons (pv 0) (pa_cons (pv 1) pa_nil)))))))), ?_⟩)
  obtain ⟨st, l, c, cs, n, rfl, hn, D, k⟩ := h
  walk_at "rd"
  refine r_kTup fun t1 H1 n1 e1 h1 => ?_
  walk_at "rd"
  refine r_kTup fun t2 H2 n2 e2 h2 => ?_
  walk_at "rd"
  refine r_kLst fun l1 H3 n3 e3 h3 => ?_
  walk_at "rd"
  refine r_kLst fun l2 H4 n4 e4 h4 => ?_
  walk_at "rd"
  refine r_dnewN2 fun d1 H5 n5 e5 h5 => ?_
  walk_at "rd"
  refine r_disp fun d2 H6 n6 e6 h6 => ?_
  walk_at "rd"
  refine r_kDisp [(Sum.inl 1, .int 2)] h6 rfl (by simp) (by simp) fun H7 b7 h7 => ?_
  have e57 := Same.mut e6 b7 n6
  walk_at "rd"
  refine r_kLst fun la H8 n8 e8 hla => ?_
  walk_at "rd"
  refine r_kTup fun t3 H9 n9 e9 h9 => ?_
  walk_at "rd"
  refine r_kTup fun t4 H10 n10 e10 h10 => ?_
  walk_at "rd"
  refine r_kTup fun t5 H11 n11 e11 h11 => ?_
  walk_at "rd"
  refine r_kTup fun t6 H12 n12 e12 h12 => ?_
  walk_at "rd"
  refine r_kTup fun t7 H13 n13 e13 h13 => ?_
  walk_at "rd"
  refine r_kLst fun l3 H14 n14 e14 h14 => ?_
  walk_at "rd"
  refine r_kTup fun t8 H15 n15 e15 h15 => ?_
  walk_at "rd"
  refine r_kLst fun lb H16 n16 e16 hlb => ?_
  have g14 := e15.trans e16
  have g13 := e14.trans g14
  have g12 := e13.trans g13
  have g11 := e12.trans g12
  have g10 := e11.trans g11
  have g9 := e10.trans g10
  have g8 := e9.trans g9
  have g7 := e8.trans g8
  have g5 := e57.trans g7
  have g4 := e5.trans g5
  have g3 := e4.trans g4
  have g2 := e3.trans g3
  have g1 := e2.trans g2
  have g0 := e1.trans g1
  have D1 := D.keep e1
  have D2 := D1.keep e2
  have D3 := D2.keep e3
  have D4 := D3.keep e4
  have D5 := D4.keep e5
  have D7 := D5.keep e57
  have D8 := D7.keep e8
  have D9 := D8.keep e9
  have D10 := D9.keep e10
  have D11 := D10.keep e11
  have D12 := D11.keep e12
  have D13 := D12.keep e13
  have D14 := D13.keep e14
  have z0 : ∀ y ∈ ([] : List V), Sh st l H16 y := fun _ h => (by cases h)
  have z1 : ∀ (i : Int), ∀ y ∈ [V.int i], Sh st l H16 y := fun i => fcons (.int i) z0
  have s1 : Sh st l H16 (.ref t1) := .tup (D.nst n1) (D.nl n1) (g1 _ _ h1) (by decide) z0
  have s2 : Sh st l H16 (.ref t2) := .tup (D1.nst n2) (D1.nl n2) (g2 _ _ h2) (by simp) (z1 0)
  have s3 : Sh st l H16 (.ref l1) := .lst (D2.nst n3) (D2.nl n3) (g3 _ _ h3)
  have s4 : Sh st l H16 (.ref l2) := .lst (D3.nst n4) (D3.nl n4) (g4 _ _ h4)
  have s5 : Sh st l H16 (.ref d1) := .dK (D4.nst n5) (D4.nl n5) (g5 _ _ h5)
  have s6 : Sh st l H16 (.ref d2) := .dK (D5.nst n6) (D5.nl n6) (g7 _ _ h7)
  have s9 : Sh st l H16 (.ref t3) := .tup (D8.nst n9) (D8.nl n9) (g9 _ _ h9) (by simp) (fcons (.str _) (z1 1))
  have s10 : Sh st l H16 (.ref t4) := .tup (D9.nst n10) (D9.nl n10) (g10 _ _ h10) (by simp) (fcons (.str _) z0)
  have s11 : Sh st l H16 (.ref t5) := .tup (D10.nst n11) (D10.nl n11) (g11 _ _ h11) (by simp) (fcons (.str _) (z1 1))
  have s12 : Sh st l H16 (.ref t6) := .tup (D11.nst n12) (D11.nl n12) (g12 _ _ h12) (by decide) z0
  have s13 : Sh st l H16 (.ref t7) := .tup (D12.nst n13) (D12.nl n13) (g13 _ _ h13) (by simp) (fcons s12 (z1 0))
  have s14 : Sh st l H16 (.ref l3) := .lst (D13.nst n14) (D13.nl n14) (g14 _ _ h14)
  have s15 : Sh st l H16 (.ref t8) := .tup (D14.nst n15) (D14.nl n15) (e16 _ _ h15) (by simp) (fcons s14 (z1 0))
  walk_at "rd"
  refine r_cat (g8 _ _ hla) hlb (by simp) fun lc H17 n17 e17 hlc => ?_
  walk_at "rd"
  refine u_pick (D.keep g0) (by omega) n17 e17 hlc (by simp) (by simp) fun i x H18 hx D18 k18 => ?_
  walk_at "rd"
  have hsh : ∀ (xs : List V), xs[i]? = some x → (∀ y ∈ xs, Sh st l H16 y) → Sh st l H16 x := fun xs h1 h2 => h2 x (List.mem_of_getElem? h1)
  exact k x H18 (Sh.kp k18 (hsh _ hx (fapp (fcons .non (fcons (.bl _) (fcons (.bl _) (fcons (.int _) (fcons (.int _) (fcons (.int _) (fcons (.int _) (fcons (.int _) (fcons (.str _) (fcons (.str _) (fcons (.str _) (fcons (.str _) (fcons s1 (fcons s2 (fcons s3 (fcons s4 (fcons s5 (fcons s6 z0)))))))))))))))))) (fcons s9 (fcons s10 (fcons (.str _) (fcons s11 (fcons s13 (fcons s15 (fcons (.int _) (fcons (.int _) z0))))))))))) D18 ((Kp.of g0).trans k18)
end
end Wp
set_option Elab.async false
set_option linter.all false
set_option maxRecDepth 100000
set_option maxHeartbeats 4000000
/-! A model and a book of it. -/
namespace Wp
open PySem PySem.Spec PyProof.Rows L2
/-- a model and a book of it -/
structure Two (C l : Addr) (H : Hp) (p q : Addr) (B : Bk) : Prop where
  m : Mdl l H p B
  o : B.Ok
  lo : B.LaidOk
  b : ∃ ks, ks.Perm B.ks ∧ BookAt C H q { B with ks := ks }
theorem Two.keep {C l p q : Addr} {H H' : Hp} {B : Bk} (h : Two C l H p q B) (e : Same H H') : Two C l H' p q B := by
  obtain ⟨ks, h1, h2⟩ := h.b
  exact ⟨h.m.keep e, h.o, h.lo, ks, h1, h2.keep e⟩
theorem Two.kp {C st l c p q : Addr} {cs : List Int} {n : Int} {H H' : Hp} {B : Bk} (h : Two C l H p q B) (k : Kp st l H H') (D : DS st l c cs n H) : Two C l H' p q B := by
  obtain ⟨ks, h1, h2⟩ := h.b
  exact ⟨h.m.kp k D, h.o, h.lo, ks, h1, h2.kp k D⟩
theorem Bk.Ok.perm {B : Bk} (ok : B.Ok) {ks : List (Str × Int × Bool)} (p : ks.Perm B.ks) : ({ B with ks := ks } : Bk).Ok := by
  obtain ⟨h1, h2, h3, h4, h5, ⟨k1, k2, ⟨k3, k4⟩, k5⟩, h7, h8, h9⟩ := ok
  have pn := p.map (·.1)
  exact ⟨h1, h2, h3, h4, h5, ⟨by rw [p.length_eq]; exact k1, by rw [p.length_eq]; exact k2, ⟨fun z hz => k3 z (pn.mem_iff.mp hz), pn.nodup_iff.mpr k4⟩, fun k hk => k5 k (p.mem_iff.mp hk)⟩, h7, h8, h9⟩
theorem Bk.LaidOk.perm {B : Bk} (lo : B.LaidOk) {ks : List (Str × Int × Bool)} (p : ks.Perm B.ks) : ({ B with ks := ks } : Bk).LaidOk := fun ns h => (lo ns h).trans (p.map (·.1)).symm
end Wp
set_option Elab.async false
set_option linter.all false
set_option maxRecDepth 100000
set_option maxHeartbeats 4000000
namespace Wp
open PySem PySem.Spec PyProof.Rows L2
abbrev s_Book_parts_told : Stmt := inClass (topS 29) 8
abbrev s_Book_with_part : Stmt := inClass (topS 29) 9
local macro_rules | `(tactic| walk_at "val") => `(tactic| assumption)
local macro_rules | `(tactic| walk_at "rd1") => `(tactic| first
  | with_reducible refine r_seq ?_ | with_reducible refine r_next ?_ | with_reducible refine r_if ?_ | with_reducible refine r_asg ?_ | with_reducible refine r_gname ?_
  | with_reducible refine r_ret ?_ | with_reducible refine r_retN ?_ | with_reducible refine r_drop ?_ | with_reducible refine r_par ?_ | with_reducible refine r_kPar ?_
  | ((with_reducible refine' r_var ?hv ?_); (case hv => exact rfl)) | with_reducible refine r_c ?_ | with_reducible refine r_nil ?_ | with_reducible refine r_cons ?_
  | with_reducible refine r_fn ?_ | with_reducible refine r_cb ?_ | with_reducible refine r_op ?_ | with_reducible refine r_un ?_ | with_reducible refine r_I0 ?_
  | with_reducible refine r_pow5 ?_ | with_reducible refine r_pow6 ?_ | with_reducible refine r_pow7 ?_ | with_reducible refine r_pow9 ?_ | with_reducible refine r_pow18 ?_ | with_reducible refine r_pow20 ?_ | with_reducible refine r_pow30 ?_
  | with_reducible refine r_isN_non ?_ | with_reducible refine r_isN_ref ?_ | with_reducible refine r_isN_int ?_ | with_reducible refine r_isN_str ?_ | with_reducible refine r_isN_bl ?_ | with_reducible refine r_notN_non ?_ | with_reducible refine r_notN_ref ?_ | with_reducible refine r_notN_int ?_ | with_reducible refine r_notN_str ?_ | with_reducible refine r_notN_bl ?_
  | ((with_reducible refine r_I ?hc ?_); (case hc => walk_at "side")) | with_reducible refine r_U ?_
  | with_reducible refine r_eqI ?_ | with_reducible refine r_neI ?_ | with_reducible refine r_eqS ?_ | with_reducible refine r_neS ?_ | with_reducible refine r_eqB ?_ | with_reducible refine r_neB ?_
  | with_reducible refine r_chain ?_ | with_reducible refine r_test ?_ | with_reducible refine r_tB ?_ | with_reducible refine r_kTest ?_ | with_reducible refine r_not ?_
  | with_reducible refine r_and ?_ | with_reducible refine r_or ?_ | with_reducible refine r_tif ?_ | with_reducible refine r_andV ?_ | with_reducible refine r_orV ?_ | with_reducible refine r_notV ?_
  | with_reducible refine r_kAndV ?_ | with_reducible refine r_kOrV ?_ | with_reducible refine r_kNotV ?_
  | with_reducible refine w_T ?_ | with_reducible refine w_F ?_ | with_reducible refine w_NT ?_ | with_reducible refine w_NF ?_
  | with_reducible refine r_tup ?_ | with_reducible refine r_lst ?_ | with_reducible refine r_fld ?_ | with_reducible refine r_prop ?_ | ((with_reducible refine' r_aug ?h1 ?_); (case h1 => exact rfl)) | with_reducible refine r_ipI ?_ | with_reducible refine r_dget ?_ | with_reducible refine r_dput ?_ | with_reducible refine r_bm ?_
  | ((with_reducible refine' r_kDGetS ?h1 ?h2 ?_); (case h1 => assumption); (case h2 => walk_at "val"))
  | ((with_reducible refine' r_kBML ?h1 ?_); (case h1 => assumption))
  | with_reducible refine r_forL ?_ | with_reducible refine r_forR1 ?_ | with_reducible refine r_forR2 ?_ | with_reducible refine r_forT ?_ | with_reducible refine r_lcL ?_ | with_reducible refine r_lcR1 ?_
  | ((with_reducible refine r_kLcG ?hw ?_); (case hw => exact rfl)) | with_reducible refine r_kLcT ?_ | with_reducible refine r_yes ?_
  | with_reducible refine r_pnil ?_ | with_reducible refine r_pcons ?_
  | with_reducible refine r_fnK ?_ | ((with_reducible refine r_kFnK ?hl ?_); (case hl => exact rfl))
  | with_reducible refine r_isi_ii ?_ | with_reducible refine r_isi_ib ?_ | with_reducible refine r_isi_bi ?_ | with_reducible refine r_isi_bb ?_ | with_reducible refine r_isi_ss ?_ | with_reducible refine r_isi_is ?_ | with_reducible refine r_isi_it ?_
  | ((with_reducible refine' r_isi_tt ?h1 ?_); (case h1 => assumption))
  | with_reducible refine r_sfld ?_ | with_reducible refine r_gnil ?_ | with_reducible refine r_gcons ?_
  | ((with_reducible refine' r_gtup ?h1 ?h2 ?_); (case h1 => exact SqT.of (by assumption)); (case h2 => exact rfl))
  | with_reducible refine r_sl ?_ | with_reducible refine r_noPart ?_ | with_reducible refine r_part ?_ | with_reducible refine r_kPart ?_ | with_reducible refine r_m1 ?_ | with_reducible refine r_kM1 ?_ | with_reducible refine r_forS ?_ | with_reducible refine r_lcS ?_ | with_reducible refine r_lcTu ?_ | with_reducible refine r_lcK ?_ | with_reducible refine r_dcL ?_ | with_reducible refine r_dcK ?_ | with_reducible refine r_lc2L ?_ | with_reducible refine r_kLc2TL ?_ | with_reducible refine r_dcEn ?_ | with_reducible refine r_gslc ?_ | with_reducible refine r_lcEn ?_ | with_reducible refine r_lcEl ?_ | with_reducible refine r_lcR2 ?_ | with_reducible refine r_rg1 ?_ | with_reducible refine r_forET ?_ | with_reducible refine r_lenD ?_
  | ((with_reducible refine r_kDcG ?hw ?_); (case hw => exact rfl)) | with_reducible refine r_kDcT ?_
  | with_reducible refine r_fldaug ?_ | with_reducible refine r_daug ?_ | with_reducible refine r_rAdd ?_ | with_reducible refine r_rSub ?_ | with_reducible refine r_ddel ?_ | with_reducible refine r_bmF ?_ | with_reducible refine r_dget2 ?_ | with_reducible refine r_listItems ?_ | with_reducible refine r_bm0 ?_ | with_reducible refine r_lc2E ?_ | ((with_reducible refine r_kLc2G ?hw ?_); (case hw => exact rfl)) | with_reducible refine r_kLc2T ?_ | with_reducible refine r_forE ?_ | with_reducible refine r_orT ?_ | with_reducible refine r_din ?_ | with_reducible refine r_augS ?_ | with_reducible refine r_dnotin ?_ | with_reducible refine r_lcIT ?_ | with_reducible refine r_cont ?_ | with_reducible refine r_meth ?_ | with_reducible refine r_frz ?_ | with_reducible refine r_par3 ?_ | with_reducible refine r_kPar3 ?_ | with_reducible refine r_dz ?_ | with_reducible refine r_revL ?_ | with_reducible refine r_star ?_ | with_reducible refine r_int1 ?_ | with_reducible refine r_int1b ?_ | with_reducible refine r_min2 ?_ | with_reducible refine r_max2 ?_ | with_reducible refine r_gsub ?_)
local macro_rules | `(tactic| walk_at "rd") => `(tactic| repeat walk_at "rd1")
local macro_rules | `(tactic| walk_at "side") => `(tactic| first | assumption | exact Or.inr ⟨by decide, by decide⟩ | exact Or.inl ⟨by decide, by decide⟩ | (constructor <;> omega) | omega | decide | (refine Or.inl ⟨?_, ?_⟩ <;> omega) | (refine Or.inr ⟨?_, ?_⟩ <;> omega) | (refine ⟨?_, ?_, ?_⟩ <;> first | decide | omega))
local macro_rules | `(tactic| walk_at "val") => `(tactic| first | exact wv1 | exact wv2 | exact wv3 | exact wv4 | exact wv5 | exact wv6)
def sp_parts_told (C : Addr) : Sp := fun vs H Q _ => ∃ (p dx tl kd : Addr) (B : Bk) (lv : V) (kvs : List (Key × V)), vs = [.ref p] ∧ BookIn C H p B dx tl kd lv kvs ∧
  ∀ t H', H t = none → Same H H' → H' t = some (.tup [.ref tl, .int B.due, .ref kd, .int B.mem, .str B.beg, lv]) → Q (.ref t) H'
/-- what a part put otherwise makes of a book -/
inductive WP (H : Hp) (B : Bk) : Str → V → Bk → Prop
  | ls {a : Addr} {ls : List Int} : LsAt H a ls → WP H B "lengths" (.ref a) { B with ls := ls }
  | due (d : Int) : WP H B "due" (.int d) { B with due := d }
  | ks {a : Addr} {kvs : List (Key × V)} {ks : List (Str × Int × Bool)} : H a = some (.dK kvs) → KAt H kvs ks → WP H B "kinds" (.ref a) { B with ks := ks }
  | mem (m : Int) : WP H B "memory" (.int m) { B with mem := m }
  | beg (s : Str) : WP H B "begins" (.str s) { B with beg := s }
  | laid {lv : V} {o : Option (List Str)} : LaidV H o lv → WP H B "laid" lv { B with laid := o }
theorem WP.keep {H H' : Hp} {B B' : Bk} {n : Str} {v : V} (h : WP H B n v B') (e : Same H H') : WP H' B n v B' := by
  cases h with
  | ls h => exact .ls (h.keep e)
  | due d => exact .due d
  | ks h1 h2 => exact .ks (e _ _ h1) (h2.keepT e)
  | mem m => exact .mem m
  | beg s => exact .beg s
  | laid h => exact .laid (h.keep fun t o xs ht => e _ _ ht)
theorem WP.name {H : Hp} {B B' : Bk} {n : Str} {v : V} (h : WP H B n v B') : n ∈ (["lengths", "due", "kinds", "memory", "begins", "laid"] : List Str) := by cases h <;> simp
def sp_with_part (C : Addr) : Sp := fun vs H Q _ => ∃ (p : Addr) (B B' : Bk) (n : Str) (v : V), vs = [.ref p, .str n, v] ∧ BookAt C H p B ∧ WP H B n v B' ∧ B'.Ok ∧ B'.LaidOk ∧
  ∀ q H' ks, H q = none → Same H H' → ks.Perm B'.ks → sortedS (ks.map (·.1)) = true → BookAt C H' q { B' with ks := ks } → Q (.ref q) H'
section
variable {P : Program} {w : World} {K : PySem.W.Frag} {mg : Str → Option Value} {base : Heap}
theorem ok_Book_parts_told {f C : Addr} {fd : FuncData} (T : Tx K mg) (bc : BkC K C) (F : FunD K "parts_told" "Book.parts_told" (defArgs s_Book_parts_told) (defBody s_Book_parts_told) (defScope s_Book_parts_told) [] [] f fd) :
    FnOk P w K mg base CX0 1 f fd ["self"] (sp_parts_told C) := by
  have sc : FnScope ["self"] ["self"] (defScope s_Book_parts_told) := ⟨rfl, rfl, rfl, by decide +kernel, rfl, by decide +kernel, by decide +kernel⟩
  refine F.ok sc (by rintro vs H Q E ⟨_, _, _, _, _, _, _, rfl, _⟩; rfl) (fun cdv A outer s H vs Q E hr h => ⟨_, PSs.nox ((pss_one (ps_ret (pe_tup (pa_cons (pe_fldK (K := K) rfl (pv 0)) (pa_cons (pe_fldK (K := K) rfl (pv 0)) (pa_cons (pe_fldK (K := K) rfl (pv 0)) (pa_cons (pe_fldK (K := K) rfl (pv 0)) (pa_cons (pe_fldK (K := K) rfl (pv 0)) (pa_cons (pe_fldK (K := K) rfl (pv 0)) pa_nil)))))))))), ?_⟩)
  obtain ⟨p, dx, tl, kd, B, lv, kvs, rfl, hB, k⟩ := h
  walk_at "rd"
  refine r_kFld hB.i bc.cl bc.n1 rfl ?_
  walk_at "rd"
  refine r_kFld hB.i bc.cl bc.n2 rfl ?_
  walk_at "rd"
  refine r_kFld hB.i bc.cl bc.n3 rfl ?_
  walk_at "rd"
  refine r_kFld hB.i bc.cl bc.n4 rfl ?_
  walk_at "rd"
  refine r_kFld hB.i bc.cl bc.n5 rfl ?_
  walk_at "rd"
  refine r_kFld hB.i bc.cl bc.n6 rfl ?_
  walk_at "rd"
  exact r_kTup k
theorem ok_Book_with_part {f C : Addr} {fd : FuncData} (T : Tx K mg) (F : FunD K "with_part" "Book.with_part" (defArgs s_Book_with_part) (defBody s_Book_with_part) (defScope s_Book_with_part) [] [] f fd)
    (mt_Book_parts_told : Dm P w K mg base CX0 1 C "parts_told" (sp_parts_told C)) (mk_Book : Dc P w K mg base CX0 5 "Book" (sp_Book C)) :
    FnOk P w K mg base CX0 7 f fd ["self", "part", "value"] (sp_with_part C) := by
  have sc : FnScope ["self", "part", "value", "found"] ["self", "part", "value"] (defScope s_Book_with_part) := ⟨rfl, rfl, rfl, by decide +kernel, rfl, by decide +kernel, by decide +kernel⟩
  refine F.ok sc (by rintro vs H Q E ⟨_, _, _, _, _, rfl, _⟩; rfl) (fun cdv A outer s H vs Q E hr h => ⟨_, PSs.nox ((pss_cons (ps_if (PW.pt (pw_or (pt_not (pt_val (pe_callB (c_isiK (K := K) rfl) (by rfl) T.b_isinstance (by decide +kernel) (pa_cons (pv 1) (pa_cons (pe_bltn (v := .ty "str") (by rfl) T.b_str (by decide +kernel) rfl) pa_nil))))) (pw_or1 (pt_cmpR (notIn_seqK (K := K) rfl) (pv 1) (pe_glob (v := .ref (He.ga K "PARTS")) (by rfl) T.g_PARTS rfl) (by rfl))))) (pss_one ps_never) pss_nil)
      (pss_cons (ps_set (i := 3) sc.nd rfl (by first | exact Or.inl rfl | exact Or.inr rfl) (pe_dictZip (K := K) rfl (by rfl) (by rfl) T.b_dict (by rfl) T.b_zip (pa_cons (pe_glob (v := .ref (He.ga K "PARTS")) (by rfl) T.g_PARTS rfl) (pa_cons (pe_mt0 mt_Book_parts_told (hr.mono (by decide)) pass0 (pv 0)) pa_nil))))
      (Evl.pss_cut (ps_dput (hu_of hr) (pv 3) (pv 1) (pv 2) rfl)
      (pss_one (ps_ret (pe_mk mk_Book (hr.mono (by decide)) pass0 (pa_cons (pe_dget (hu_of hr) (pv 3) pe_str (fun _ _ => rfl)) (pa_cons (pe_dget (hu_of hr) (pv 3) pe_str (fun _ _ => rfl)) (pa_cons (pe_dget (hu_of hr) (pv 3) pe_str (fun _ _ => rfl)) (pa_cons (pe_dget (hu_of hr) (pv 3) pe_str (fun _ _ => rfl)) (pa_cons (pe_dget (hu_of hr) (pv 3) pe_str (fun _ _ => rfl)) (pa_cons (pe_dget (hu_of hr) (pv 3) pe_str (fun _ _ => rfl)) pa_nil))))))))))))), ?_⟩)
  obtain ⟨p, B, B', n, v, rfl, ⟨dx, tl, kd, lv, kvs, hB⟩, hW, ok', lok', k⟩ := h
  walk_at "rd"
  refine r_notInTS (xs := ["lengths", "due", "kinds", "memory", "begins", "laid"]) (T.t_PARTS H) ?_
  rw [decide_eq_true hW.name]
  walk_at "rd"
  refine r_kMeth hB.i rfl ?_
  walk_at "rd"
  refine ⟨p, dx, tl, kd, B, _, kvs, rfl, hB, fun t H1 nt e1 ht => ?_⟩
  walk_at "rd"
  refine r_kDZ (ks := wks) (T.t_PARTS H1) (SqT.of ht) rfl (by decide) wks_nd fun d H2 nd e2 hd => ?_
  rw [wz_zip] at hd
  have e02 := e1.trans e2
  have nd0 : H d = none := e1.free nd
  walk_at "rd"
  refine r_cut (fun σ' H' => σ' = [some (.ref p), some (.str n), some v, some (.ref d)] ∧ Same H H' ∧ ∃ (a' kd' : Addr) (lv' : V) (kvs' : List (Key × V)), H' d = some (.dK (wkv (.ref a') (.int B'.due) (.ref kd') (.int B'.mem) (.str B'.beg) lv')) ∧ LaidV H' B'.laid lv' ∧ LsAt H' a' B'.ls ∧ H' kd' = some (.dK kvs') ∧ KAt H' kvs' B'.ks) ?_ ?_
  · walk_at "rd"
    refine r_kDPutS hd (show 6 < 1000000 by decide) fun H3 b3 h3 => ?_
    have e03 : Same H H3 := Same.mut e02 b3 nd0
    have hB3 := hB.keep e03
    have hl3 : LsAt H3 tl B.ls := .inr hB3.l
    refine ⟨rfl, e03, ?_⟩
    cases hW with
    | ls h =>
      rw [wp1] at h3
      exact ⟨_, kd, lv, kvs, h3, hB3.d, h.keep e03, hB3.k, hB3.a⟩
    | due d' =>
      rw [wp2] at h3
      exact ⟨tl, kd, lv, kvs, h3, hB3.d, hl3, hB3.k, hB3.a⟩
    | ks h1 h2 =>
      rw [wp3] at h3
      exact ⟨tl, _, lv, _, h3, hB3.d, hl3, e03 _ _ h1, h2.keepT e03⟩
    | mem m =>
      rw [wp4] at h3
      exact ⟨tl, kd, lv, kvs, h3, hB3.d, hl3, hB3.k, hB3.a⟩
    | beg s =>
      rw [wp5] at h3
      exact ⟨tl, kd, lv, kvs, h3, hB3.d, hl3, hB3.k, hB3.a⟩
    | laid h =>
      rw [wp6] at h3
      exact ⟨tl, kd, _, kvs, h3, h.keep (fun t o xs ht => e03 _ _ ht), hl3, hB3.k, hB3.a⟩
  rintro σ' H3 ⟨rfl, e03, a', kd', lv', kvs', hd3, hlv', ha', hkd', hK'⟩
  walk_at "rd"
  exact ⟨a', kd', B', lv', kvs', rfl, ok', lok', hlv', ha', hkd', hK', fun q H4 ks nq e4 p1 p2 hB4 => k q H4 ks (e03.free nq) (e03.trans e4) p1 p2 hB4⟩
end
end Wp
set_option Elab.async false
set_option linter.all false
set_option maxRecDepth 100000
set_option maxHeartbeats 4000000
namespace Wp
open PySem PySem.Spec PyProof.Rows L2
abbrev s_law : Stmt := topS 56
local macro_rules | `(tactic| walk_at "val") => `(tactic| assumption)
local macro_rules | `(tactic| walk_at "rd1") => `(tactic| first
  | with_reducible refine r_seq ?_ | with_reducible refine r_next ?_ | with_reducible refine r_if ?_ | with_reducible refine r_asg ?_ | with_reducible refine r_gname ?_
  | with_reducible refine r_ret ?_ | with_reducible refine r_retN ?_ | with_reducible refine r_drop ?_ | with_reducible refine r_par ?_ | with_reducible refine r_kPar ?_
  | ((with_reducible refine' r_var ?hv ?_); (case hv => exact rfl)) | with_reducible refine r_c ?_ | with_reducible refine r_nil ?_ | with_reducible refine r_cons ?_
  | with_reducible refine r_fn ?_ | with_reducible refine r_cb ?_ | with_reducible refine r_op ?_ | with_reducible refine r_un ?_ | with_reducible refine r_I0 ?_
  | with_reducible refine r_pow5 ?_ | with_reducible refine r_pow6 ?_ | with_reducible refine r_pow7 ?_ | with_reducible refine r_pow9 ?_ | with_reducible refine r_pow18 ?_ | with_reducible refine r_pow20 ?_ | with_reducible refine r_pow30 ?_
  | with_reducible refine r_isN_non ?_ | with_reducible refine r_isN_ref ?_ | with_reducible refine r_isN_int ?_ | with_reducible refine r_isN_str ?_ | with_reducible refine r_isN_bl ?_ | with_reducible refine r_notN_non ?_ | with_reducible refine r_notN_ref ?_ | with_reducible refine r_notN_int ?_ | with_reducible refine r_notN_str ?_ | with_reducible refine r_notN_bl ?_
  | ((with_reducible refine r_I ?hc ?_); (case hc => walk_at "side")) | with_reducible refine r_U ?_
  | with_reducible refine r_eqI ?_ | with_reducible refine r_neI ?_ | with_reducible refine r_eqS ?_ | with_reducible refine r_neS ?_ | with_reducible refine r_eqB ?_ | with_reducible refine r_neB ?_
  | with_reducible refine r_chain ?_ | with_reducible refine r_test ?_ | with_reducible refine r_tB ?_ | with_reducible refine r_kTest ?_ | with_reducible refine r_not ?_
  | with_reducible refine r_and ?_ | with_reducible refine r_or ?_ | with_reducible refine r_tif ?_ | with_reducible refine r_andV ?_ | with_reducible refine r_orV ?_ | with_reducible refine r_notV ?_
  | with_reducible refine r_kAndV ?_ | with_reducible refine r_kOrV ?_ | with_reducible refine r_kNotV ?_
  | with_reducible refine w_T ?_ | with_reducible refine w_F ?_ | with_reducible refine w_NT ?_ | with_reducible refine w_NF ?_
  | with_reducible refine r_tup ?_ | with_reducible refine r_lst ?_ | with_reducible refine r_fld ?_ | with_reducible refine r_prop ?_ | ((with_reducible refine' r_aug ?h1 ?_); (case h1 => exact rfl)) | with_reducible refine r_ipI ?_ | with_reducible refine r_dget ?_ | with_reducible refine r_dput ?_ | with_reducible refine r_bm ?_
  | ((with_reducible refine' r_kDGetS ?h1 ?h2 ?_); (case h1 => assumption); (case h2 => walk_at "val"))
  | ((with_reducible refine' r_kBML ?h1 ?_); (case h1 => assumption))
  | with_reducible refine r_forL ?_ | with_reducible refine r_forR1 ?_ | with_reducible refine r_forR2 ?_ | with_reducible refine r_forT ?_ | with_reducible refine r_lcL ?_ | with_reducible refine r_lcR1 ?_
  | ((with_reducible refine r_kLcG ?hw ?_); (case hw => exact rfl)) | with_reducible refine r_kLcT ?_ | with_reducible refine r_yes ?_
  | with_reducible refine r_pnil ?_ | with_reducible refine r_pcons ?_
  | with_reducible refine r_fnK ?_ | ((with_reducible refine r_kFnK ?hl ?_); (case hl => exact rfl))
  | with_reducible refine r_isi_ii ?_ | with_reducible refine r_isi_ib ?_ | with_reducible refine r_isi_bi ?_ | with_reducible refine r_isi_bb ?_ | with_reducible refine r_isi_ss ?_ | with_reducible refine r_isi_is ?_ | with_reducible refine r_isi_it ?_
  | ((with_reducible refine' r_isi_tt ?h1 ?_); (case h1 => assumption))
  | with_reducible refine r_sfld ?_ | with_reducible refine r_gnil ?_ | with_reducible refine r_gcons ?_
  | ((with_reducible refine' r_gtup ?h1 ?h2 ?_); (case h1 => exact SqT.of (by assumption)); (case h2 => exact rfl))
  | with_reducible refine r_sl ?_ | with_reducible refine r_noPart ?_ | with_reducible refine r_part ?_ | with_reducible refine r_kPart ?_ | with_reducible refine r_m1 ?_ | with_reducible refine r_kM1 ?_ | with_reducible refine r_forS ?_ | with_reducible refine r_lcS ?_ | with_reducible refine r_lcTu ?_ | with_reducible refine r_lcK ?_ | with_reducible refine r_dcL ?_ | with_reducible refine r_dcK ?_ | with_reducible refine r_lc2L ?_ | with_reducible refine r_kLc2TL ?_ | with_reducible refine r_dcEn ?_ | with_reducible refine r_gslc ?_ | with_reducible refine r_lcEn ?_ | with_reducible refine r_lcEl ?_ | with_reducible refine r_lcR2 ?_ | with_reducible refine r_rg1 ?_ | with_reducible refine r_forET ?_ | with_reducible refine r_lenD ?_
  | ((with_reducible refine r_kDcG ?hw ?_); (case hw => exact rfl)) | with_reducible refine r_kDcT ?_
  | with_reducible refine r_fldaug ?_ | with_reducible refine r_daug ?_ | with_reducible refine r_rAdd ?_ | with_reducible refine r_rSub ?_ | with_reducible refine r_ddel ?_ | with_reducible refine r_bmF ?_ | with_reducible refine r_dget2 ?_ | with_reducible refine r_listItems ?_ | with_reducible refine r_bm0 ?_ | with_reducible refine r_lc2E ?_ | ((with_reducible refine r_kLc2G ?hw ?_); (case hw => exact rfl)) | with_reducible refine r_kLc2T ?_ | with_reducible refine r_forE ?_ | with_reducible refine r_orT ?_ | with_reducible refine r_din ?_ | with_reducible refine r_augS ?_ | with_reducible refine r_dnotin ?_ | with_reducible refine r_lcIT ?_ | with_reducible refine r_cont ?_ | with_reducible refine r_meth ?_ | with_reducible refine r_frz ?_ | with_reducible refine r_par3 ?_ | with_reducible refine r_kPar3 ?_ | with_reducible refine r_dz ?_ | with_reducible refine r_revL ?_ | with_reducible refine r_star ?_ | with_reducible refine r_int1 ?_ | with_reducible refine r_int1b ?_ | with_reducible refine r_min2 ?_ | with_reducible refine r_max2 ?_ | with_reducible refine r_gsub ?_)
local macro_rules | `(tactic| walk_at "rd") => `(tactic| repeat walk_at "rd1")
local macro_rules | `(tactic| walk_at "side") => `(tactic| first | assumption | exact Or.inr ⟨by decide, by decide⟩ | exact Or.inl ⟨by decide, by decide⟩ | (constructor <;> omega) | omega | decide | (refine Or.inl ⟨?_, ?_⟩ <;> omega) | (refine Or.inr ⟨?_, ?_⟩ <;> omega) | (refine ⟨?_, ?_, ?_⟩ <;> first | decide | omega))
local macro_rules | `(tactic| walk_at "val") => `(tactic| first | exact mv1 | exact mv2 | exact mv3 | exact mv4 | exact mv5 | exact mv6)
theorem r_catA1' {K : PySem.W.Frag} {H : Hp} {Q : VK} {a b : Addr} {xs : List V} {y : V} (h1 : H a = some (.tup xs)) (h2 : H b = some (.tup [y])) (hz : xs.length ≤ 1000) (q : ∀ p H', Same H H' → H' p = some (.tup (xs ++ [y])) → Q (.ref p) H') : rCatA K (.ref a) (.ref b) H Q := by
  refine ⟨a, b, xs, [y], rfl, rfl, SqT.of h1, SqT.of h2, sz5 (by rw [List.length_singleton]; omega), fun e => ?_, fun _ e => (by cases e), fun _ _ p hp => q p _ (Same.new hp) upd_same⟩
  refine q b H (Same.refl _) ?_
  rw [e, h2]
  rfl
theorem r_rep' {l : Addr} {k : Int} {xs : List V} {H : Hp} {Q : VK} (h : H l = some (.lst xs)) (h0 : 0 ≤ k) (h1 : k ≤ 1000) (hz : xs.length ≤ 1000) (q : ∀ p H', H p = none → Same H H' → H' p = some (.lst (List.replicate k.toNat xs).flatten) → Q (.ref p) H') : rRep (.ref l) (.int k) H Q := by
  refine ⟨l, k, xs, rfl, rfl, h, by omega, by omega, ?_, fun p hp => q p _ hp (Same.new hp) upd_same⟩
  refine sz5 (Nat.le_trans (Nat.mul_le_mul hz (show k.toNat ≤ 1000 by omega)) (by decide))
theorem Vw.same {K : PySem.W.Frag} {H H' : Hp} (e : Same H H') {v : V} {b : Bool} (h : Vw K H v b) : Vw K H' v b := by
  cases h with
  | ty h a => exact .ty (TyX.same e h) a
  | len h a b => exact .len (e _ _ h) a b
  | fst h a b => exact .fst (e _ _ h) (TyX.same e a) b
  | two h a => exact .two (e _ _ h) (NumV.same e a)
theorem DS.ntup {st l c p : Addr} {cs : List Int} {n : Int} {H : Hp} {xs : List V} (D : DS st l c cs n H) (h : H p = some (.tup xs)) : p ≠ st ∧ p ≠ l := by
  obtain ⟨r, t, _, _, _, hd⟩ := D.d
  obtain ⟨zs, _, hl⟩ := D.lg
  exact ⟨ne_of h hd (by intro z; cases z), ne_of h hl (by intro z; cases z)⟩
section
variable {P : Program} {w : World} {K : PySem.W.Frag} {mg : Str → Option Value} {base : Heap}
theorem ok_law {f C : Addr} {fd : FuncData} (T : Tx K mg) (F : FnP K "law" s_law f fd)
    (d__law_begun : Dn P w K mg base CX0 1 "_law_begun" ["_law_script"] (sp_begun K)) (d__law_take : Dn P w K mg base CX0 2 "_law_take" ["_law_state", "_law_size"] sp_take) (d__law_pick : Dn P w K mg base CX0 3 "_law_pick" ["_law_state", "_law_some_here"] sp_pick)
    (d__law_model : Dn P w K mg base CX0 5 "_law_model" ["_law_state", "_law_many", "_law_is_laid"] sp_model) (d__law_made : Dn P w K mg base CX0 7 "_law_made" ["_law_model_here"] (sp_made C))
    (d__law_can_stand : Dn P w K mg base CX0 3 "_law_can_stand" ["_law_model_here", "_law_date"] sp_can_stand) (d__law_is_vow : Dn P w K mg base CX0 1 "_law_is_vow" ["_law_thing"] (sp_is_promise K)) (d__law_broken : Dn P w K mg base CX0 4 "_law_broken" ["_law_model_here", "_law_vow"] sp_broken)
    (d__law_odd : Dn P w K mg base CX0 4 "_law_odd" ["_law_state"] sp_odd) (mt_Book_with_part : Dm P w K mg base CX0 7 C "with_part" (sp_with_part C))
    (d_breaker : Dn P w K mg base CX0 5 "breaker" ["book", "promise"] (sp_breaker C)) (k_breaker_promise_book : Dq P w K mg base CX0 5 "breaker" ["promise", "book"] swap2 (sp_breaker C))
    (d_is_promise : Dn P w K mg base CX0 3 "is_promise" ["value"] (sp_is_promise K)) (k_is_promise_value : Dq P w K mg base CX0 3 "is_promise" ["value"] keep1 (sp_is_promise K))
    (d_next_day : Dn P w K mg base CX0 4 "next_day" ["book", "day", "days"] (sp_next_day C)) (k_next_day_days_book_day : Dq P w K mg base CX0 4 "next_day" ["days", "book", "day"] rot3 (sp_next_day C)) :
    FnG P w K mg base CX0 10 f fd ["_law_script"] (spLaw K) := by
  have sc : FnScope ["_law_script", "_law_state", "_law_turn", "_law_model_here", "_law_made_here", "_law_longest", "_law_lap", "_law_many", "_law_vow", "_law_due_here", "_law_near", "_law_odd_here", "_law_date", "_law_later", "_law_spot"] ["_law_script"] (defScope s_law) := ⟨rfl, rfl, rfl, by decide +kernel, rfl, by decide +kernel, by decide +kernel⟩
  refine F.okG sc (by rintro vs H Q E ⟨_, _, rfl, _⟩; rfl) (fun cdv A outer s H vs Q E hr hG h => ⟨_, PSs.nox ((pss_cons (ps_set (i := 1) sc.nd rfl (by first | exact Or.inl rfl | exact Or.inr rfl) (pe_fn d__law_begun (hr.mono (by decide)) pass0 (pa_cons (pv 0) pa_nil)))
      (pss_cons (ps_for PassesOwn.never rfl (pi_range1 (by rfl) T.b_range (pa_cons (pe_op op_add pe_int (pe_callB (c_min2 rfl) (by rfl) T.b_min (by decide +kernel) (pa_cons (pe_callB (c_lenK (K := K) rfl) (by rfl) T.b_len (by decide +kernel) (pa_cons (pv 0) pa_nil)) (pa_cons pe_int pa_nil)))) pa_nil)) (pg_name (i := 2) sc.nd rfl (by first | exact Or.inl rfl | exact Or.inr rfl)) (pss_cons (ps_set (i := 3) sc.nd rfl (by first | exact Or.inl rfl | exact Or.inr rfl) (pe_fn d__law_model (hr.mono (by decide)) pass0 (pa_cons (pv 1) (pa_cons pe_int (pa_cons pe_bl pa_nil)))))
      (pss_cons (ps_par (i := 4) (j := 5) (by rfl) sc.nd rfl rfl (by decide) rfl rfl (pa_cons (pe_fn d__law_made (hr.mono (by decide)) pass0 (pa_cons (pv 3) pa_nil)) (pa_cons (pe_op op_add (pe_callB (c_maxK (K := K) rfl rfl) (by rfl) T.b_max (by decide +kernel) (pa_cons (pe_dget (hu_of hr) (pv 3) pe_str (fun _ _ => rfl)) pa_nil)) (pe_dget (hu_of hr) (pv 3) pe_str (fun _ _ => rfl))) pa_nil)) (by rfl))
      (pss_cons (ps_for PassesOwn.never rfl (pi_range1 (by rfl) T.b_range (pa_cons pe_int pa_nil)) (pg_name (i := 6) sc.nd rfl (by first | exact Or.inl rfl | exact Or.inr rfl)) (pss_cons (ps_set (i := 7) sc.nd rfl (by first | exact Or.inl rfl | exact Or.inr rfl) (pe_fn d__law_pick (hr.mono (by decide)) pass0 (pa_cons (pv 1) (pa_cons (pe_lst (pa_cons pe_int (pa_cons (pe_dget (hu_of hr) (pv 3) pe_str (fun _ _ => rfl)) (pa_cons (pe_op op_add (pe_dget (hu_of hr) (pv 3) pe_str (fun _ _ => rfl)) pe_int) (pa_cons (pe_op op_add (pe_dget (hu_of hr) (pv 3) pe_str (fun _ _ => rfl)) pe_int) (pa_cons (pv 5) (pa_cons (pe_op op_add (pv 5) pe_int) (pa_cons pe_int pa_nil)))))))) pa_nil))))
      (pss_cons (ps_set (i := 8) sc.nd rfl (by first | exact Or.inl rfl | exact Or.inr rfl) (pe_tup (pa_cons (pe_fn d__law_pick (hr.mono (by decide)) pass0 (pa_cons (pv 1) (pa_cons (pe_lst (pa_cons pe_str (pa_cons pe_str pa_nil))) pa_nil))) (pa_cons (pe_callB (c_min2 rfl) (by rfl) T.b_min (by decide +kernel) (pa_cons pe_int (pa_cons (pv 7) pa_nil))) pa_nil))))
      (pss_cons (ps_set (i := 9) sc.nd rfl (by first | exact Or.inl rfl | exact Or.inr rfl) (pe_fn d__law_broken (hr.mono (by decide)) pass0 (pa_cons (pv 3) (pa_cons (pv 8) pa_nil))))
      (pss_cons (ps_if (pt_cmpR op_ne (pe_callB (c_reprK (K := K) rfl hG hr) (by rfl) T.b_repr (by decide +kernel) (pa_cons (pe_lst (pa_cons (pe_fn d_breaker (hr.mono (by decide)) pass0 (pa_cons (pv 4) (pa_cons (pv 8) pa_nil))) (pa_cons (pe_fnK0 k_breaker_promise_book (hr.mono (by decide)) pass0 (pk_cons (pv 8) (pk_cons (pv 4) pk_nil))) pa_nil))) pa_nil)) (pe_callB (c_reprK (K := K) rfl hG hr) (by rfl) T.b_repr (by decide +kernel) (pa_cons (pe_lst (pa_cons (pv 9) (pa_cons (pv 9) pa_nil))) pa_nil)) (nomark _)) (pss_one (ps_ret pe_bl)) pss_nil)
      (pss_cons (ps_set (i := 10) sc.nd rfl (by first | exact Or.inl rfl | exact Or.inr rfl) (pe_callTy c_dictD (by rfl) T.b_dict (by decide +kernel) (pa_cons (pv 3) pa_nil)))
      (pss_cons (ps_dput (hu_of hr) (pv 10) pe_str (pe_fn d__law_take (hr.mono (by decide)) pass0 (pa_cons (pv 1) (pa_cons (pe_callB (c_minK (K := K) rfl rfl) (by rfl) T.b_min (by decide +kernel) (pa_cons (pe_dget (hu_of hr) (pv 3) pe_str (fun _ _ => rfl)) pa_nil)) pa_nil))) rfl)
      (pss_cons (ps_if (pt_cmpR op_ne (pe_fn d_breaker (hr.mono (by decide)) pass0 (pa_cons (pe_mt mt_Book_with_part (hr.mono (by decide)) pass0 (pv 4) (pa_cons pe_str (pa_cons (pe_dget (hu_of hr) (pv 10) pe_str (fun _ _ => rfl)) pa_nil))) (pa_cons (pv 8) pa_nil))) (pe_fn d__law_broken (hr.mono (by decide)) pass0 (pa_cons (pv 10) (pa_cons (pv 8) pa_nil))) (nomark _)) (pss_one (ps_ret pe_bl)) pss_nil)
      (pss_cons (ps_set (i := 11) sc.nd rfl (by first | exact Or.inl rfl | exact Or.inr rfl) (pe_fn d__law_pick (hr.mono (by decide)) pass0 (pa_cons (pv 1) (pa_cons (pe_lst (pa_cons (pv 8) (pa_cons (pe_callTy (c_listK (K := K) rfl) (by rfl) T.b_list (by decide +kernel) (pa_cons (pv 8) pa_nil)) (pa_cons (pe_op (op_catAK (K := K) rfl) (pv 8) (pe_tup (pa_cons pe_int pa_nil))) (pa_cons (pe_tup (pa_cons (pe_ix (ix_tupK (K := K) rfl) (pv 8) pe_int (fun _ _ => rfl)) (pa_cons (pe_un un_neg pe_int) pa_nil))) (pa_cons (pe_tup (pa_cons (pe_ix (ix_tupK (K := K) rfl) (pv 8) pe_int (fun _ _ => rfl)) (pa_cons pe_int pa_nil))) (pa_cons (pe_tup (pa_cons (pe_ix (ix_tupK (K := K) rfl) (pv 8) pe_int (fun _ _ => rfl)) (pa_cons pe_bl pa_nil))) (pa_cons (pe_tup (pa_cons pe_str (pa_cons pe_int pa_nil))) pa_nil)))))))) pa_nil))))
      (pss_cons (ps_set (i := 11) sc.nd rfl (by first | exact Or.inl rfl | exact Or.inr rfl) (pe_fn d__law_pick (hr.mono (by decide)) pass0 (pa_cons (pv 1) (pa_cons (pe_lst (pa_cons (pv 11) (pa_cons (pv 11) (pa_cons (pe_fn d__law_odd (hr.mono (by decide)) pass0 (pa_cons (pv 1) pa_nil)) (pa_cons (pe_tup (pa_cons (pe_fn d__law_odd (hr.mono (by decide)) pass0 (pa_cons (pv 1) pa_nil)) (pa_cons pe_int pa_nil))) (pa_cons (pe_tup (pa_cons (pe_ix (ix_tupK (K := K) rfl) (pv 8) pe_int (fun _ _ => rfl)) (pa_cons (pe_fn d__law_odd (hr.mono (by decide)) pass0 (pa_cons (pv 1) pa_nil)) pa_nil))) pa_nil)))))) pa_nil))))
      (pss_one (ps_if (pt_cmpR op_ne (pe_callB (c_reprK (K := K) rfl hG hr) (by rfl) T.b_repr (by decide +kernel) (pa_cons (pe_lst (pa_cons (pe_fn d_is_promise (hr.mono (by decide)) pass0 (pa_cons (pv 11) pa_nil)) (pa_cons (pe_fnK0 k_is_promise_value (hr.mono (by decide)) pass0 (pk_cons (pv 11) pk_nil)) pa_nil))) pa_nil)) (pe_callB (c_reprK (K := K) rfl hG hr) (by rfl) T.b_repr (by decide +kernel) (pa_cons (pe_op op_rep (pe_lst (pa_cons (pe_fn d__law_is_vow (hr.mono (by decide)) pass0 (pa_cons (pv 11) pa_nil)) pa_nil)) pe_int) pa_nil)) (nomark _)) (pss_one (ps_ret pe_bl)) pss_nil))))))))))))
      (pss_one (ps_for PassesOwn.never rfl (pi_range1 (by rfl) T.b_range (pa_cons pe_int pa_nil)) (pg_name (i := 6) sc.nd rfl (by first | exact Or.inl rfl | exact Or.inr rfl)) (pss_cons (ps_asg (pe_tup (pa_cons (pe_fn d__law_pick (hr.mono (by decide)) pass0 (pa_cons (pv 1) (pa_cons (pe_lst (pa_cons (pe_fn d__law_take (hr.mono (by decide)) pass0 (pa_cons (pv 1) (pa_cons pe_int pa_nil))) (pa_cons (pe_op op_sub pe_int (pe_fn d__law_take (hr.mono (by decide)) pass0 (pa_cons (pv 1) (pa_cons pe_int pa_nil)))) pa_nil))) pa_nil))) (pa_cons (pe_fn d__law_pick (hr.mono (by decide)) pass0 (pa_cons (pv 1) (pa_cons (pe_lst (pa_cons pe_int (pa_cons (pe_op op_add (pe_dget (hu_of hr) (pv 3) pe_str (fun _ _ => rfl)) pe_int) (pa_cons (pv 5) (pa_cons (pe_op op_add (pv 5) pe_int) (pa_cons pe_int pa_nil)))))) pa_nil))) pa_nil))) (pg_tupK (K := K) (n := 2) rfl rfl (pgs_cons (pg_name (i := 12) sc.nd rfl (by first | exact Or.inl rfl | exact Or.inr rfl)) (pgs_cons (pg_name (i := 7) sc.nd rfl (by first | exact Or.inl rfl | exact Or.inr rfl)) pgs_nil))))
      (pss_cons (ps_setLc (i := 13) (own := [("_law_spot", 14)]) (by rfl) sc.nd rfl rfl (sw_true rfl rfl rfl (by decide +kernel)) (pi_range2 (by rfl) T.b_range (pa_cons (pv 12) (pa_cons (pe_op op_add (pv 12) pe_int) pa_nil))) (blkOk_by (own := [("_law_spot", 14)]) (N := ["_law_script", "_law_state", "_law_turn", "_law_model_here", "_law_made_here", "_law_longest", "_law_lap", "_law_many", "_law_vow", "_law_due_here", "_law_near", "_law_odd_here", "_law_date", "_law_later", "_law_spot"]) (sc := defScope s_law) (by decide +kernel)) (fun _ _ _ _ _ => (pg_name (i := 14) sc.nd rfl (by first | exact Or.inl rfl | exact Or.inr rfl))) (fun _ _ _ _ _ => (pts_one (pt_cmpR op_ge (pe_fn d__law_can_stand (hr.mono (by decide)) pass0 (pa_cons (pv 3) (pa_cons (pv 14) pa_nil))) (pv 7) (nomark _)))) (fun _ _ _ _ _ => (pv 14)))
      (pss_cons (ps_set (i := 9) sc.nd rfl (by first | exact Or.inl rfl | exact Or.inr rfl) (pe_ifExp (pt_cmpR (neNilK (K := K) rfl hr.units) (pv 13) (pe_lst pa_nil) (nomark _)) (pe_ix (ix_listK (K := K) rfl) (pv 13) pe_int (fun _ _ => rfl)) pe_non))
      (pss_one (ps_if (pt_cmpR op_ne (pe_callB (c_reprK (K := K) rfl hG hr) (by rfl) T.b_repr (by decide +kernel) (pa_cons (pe_lst (pa_cons (pe_fn d_next_day (hr.mono (by decide)) pass0 (pa_cons (pv 4) (pa_cons (pv 12) (pa_cons (pv 7) pa_nil)))) (pa_cons (pe_fnK0 k_next_day_days_book_day (hr.mono (by decide)) pass0 (pk_cons (pv 7) (pk_cons (pv 4) (pk_cons (pv 12) pk_nil)))) pa_nil))) pa_nil)) (pe_callB (c_reprK (K := K) rfl hG hr) (by rfl) T.b_repr (by decide +kernel) (pa_cons (pe_lst (pa_cons (pv 9) (pa_cons (pv 9) pa_nil))) pa_nil)) (nomark _)) (pss_one (ps_ret pe_bl)) pss_nil)))))))))))
      (pss_one (ps_ret pe_bl))))), ?_⟩)
  obtain ⟨a, cs, rfl, hS, hlen, k⟩ := h
  walk_at "rd"
  refine ⟨a, cs, rfl, hS, hlen, fun st l c H1 nst nl nc e1 D1 => ?_⟩
  walk_at "rd"
  have hS2 : SqL K H1 a (cs.map V.int) := SqL.kp hS e1 nst nl (Kp.refl)
  refine r_lenL hS2 ?_
  walk_at "rd"
  refine r_kForR1 (fun i σ' H' => ∃ (x2 x3 x4 x5 x6 x7 x8 x9 x10 x11 x12 x13 x14 : Option V), σ' = [some (.ref a), some (.ref st), x2, x3, x4, x5, x6, x7, x8, x9, x10, x11, x12, x13, x14] ∧ DS st l c cs (1000 * (i : Int)) H') (by rw [List.length_map]; omega) ⟨_, _, _, _, _, _, _, _, _, _, _, _, _, rfl, D1.mono (by omega)⟩ ?_ ?_
  · rintro i0 σ' H3 hi ⟨x2, x3, x4, x5, x6, x7, x8, x9, x10, x11, x12, x13, x14, rfl, D3⟩
    have hi2 : (i0 : Int) ≤ 100 := by
      rw [List.length_map] at hi
      omega
    walk_at "rd"
    refine ⟨st, l, c, cs, _, 2, true, rfl, by omega, D3, by decide, by decide, fun p B H4 np ok lok hM4 D4 k4 => ?_⟩
    have okl := ok.ls
    have hsum := okl.sum
    have l1 := okl.l1
    have l2 := okl.l2
    have hd0 := ok.d0
    have due31 : B.due + 1 ≤ 31 := by
      obtain ⟨x, hx⟩ := List.exists_mem_of_length_pos (show 0 < B.ls.length by omega)
      have := ok.l3 x hx
      have := ok.d1 x hx
      omega
    walk_at "rd"
    refine ⟨l, p, B, rfl, ok, lok, hM4, fun q H5 ks nq e5 pm so hBk5 => ?_⟩
    have okp : ({ B with ks := ks } : Bk).Ok := ok.perm pm
    have lokp : ({ B with ks := ks } : Bk).LaidOk := lok.perm pm
    have D5 := D4.keep e5
    have hM5 := hM4.keep e5
    obtain ⟨ad, kd, lv, kvs, hI5⟩ := id hM5
    have hp5 := hI5.i
    walk_at "rd"
    refine r_maxI (SqL.of hI5.l) (by omega) fun mx hmx hmax => ?_
    have hmx2 := okl.l3 mx hmx
    walk_at "rd"
    have hlong : 2 ≤ mx + B.due ∧ mx + B.due ≤ 61 := by omega
    refine r_kForR1 (fun j σ' H' => ∃ (y6 y7 y8 y9 y10 y11 : Option V), σ' = [some (.ref a), some (.ref st), some (.int (i0 : Int)), some (.ref p), some (.ref q), some (.int (mx + B.due)), y6, y7, y8, y9, y10, y11, x12, x13, x14] ∧ DS st l c cs (1000 * (i0 : Int) + 500 + 20 * (j : Int)) H' ∧ Kp st l H5 H')
      (by omega) ⟨_, _, _, _, _, _, rfl, D5.mono (by omega), Kp.refl⟩ ?_ ?_
    · rintro j σ' H6 hj ⟨y6, y7, y8, y9, y10, y11, rfl, D6, k6⟩
      have M6 := hM5.kp k6 D5
      obtain ⟨ad6, kd6, lv6, kvs6, hI6⟩ := id M6
      have hp6 := hI6.i
      walk_at "rd"
      refine r_kLst fun a1 H7 na1 e7 ha1 => ?_
      walk_at "rd"
      refine u_pick D6 (by omega) na1 e7 ha1 (by simp) (by simp) fun i1 x1 H8 hx1 D8 k8 => ?_
      obtain ⟨many, rfl, mn0, mn1⟩ := IntsIn.get (lo := 0) (hi := 200) (by simp [IntsIn]; omega) hx1
      walk_at "rd"
      refine r_kLst fun a2 H9 na2 e9 ha2 => ?_
      walk_at "rd"
      refine u_pick D8 (by omega) na2 e9 ha2 (by simp) (by simp) fun i2 x2 H10 hx2 D10 k10 => ?_
      obtain ⟨s, rfl, hs⟩ := strs_get (xs := ["each", "some"]) hx2
      have hs := List.mem_of_getElem? hs
      walk_at "rd"
      refine r_kTup fun tv H11 ntv e11 htv => ?_
      have k611 := (k8.trans k10).trans (Kp.of e11)
      have D11 := D10.keep e11
      have k511 := k6.trans k611
      have M11 := hM5.kp k511 D5
      have B11 := hBk5.kp k511 D5
      have n0 : 0 ≤ min 100 many := by omega
      have n1 : min 100 many ≤ 100 := by omega
      generalize hnn : min 100 many = nn at htv n0 n1
      walk_at "rd"
      refine ⟨l, p, tv, B, s, nn, rfl, M11, okl, htv, fun H12 e12 => ?_⟩
      walk_at "rd"
      refine ⟨q, tv, { B with ks := ks }, s, nn, rfl, B11.keep e12, okp, e12 _ _ htv, hs, n0, n1, fun H13 e13 => ?_⟩
      walk_at "rd"
      have e1213 := e12.trans e13
      refine ⟨q, tv, { B with ks := ks }, s, nn, rfl, B11.keep e1213, okp, e1213 _ _ htv, hs, n0, n1, fun H14 e14 => ?_⟩
      have hbs := fun x hx => brkO_small (ls := B.ls) (u := B.due) (n := nn) (s := s) (by omega) x hx
      have h60 : (10000 : Nat) < 10 ^ 60 := by decide
      have hbs6 : ∀ x, brkO B.ls B.due s nn = some x → x.natAbs < 10 ^ 60 := fun x hx => by have := hbs x hx; omega
      walk_at "rd"
      refine r_kLst fun v1 H15 nv1 e15 hv1 => ?_
      walk_at "rd"
      refine r_reprOO (o := brkO B.ls B.due s nn) (SqL.of hv1) hbs6 ?_
      walk_at "rd"
      refine r_kLst fun v2 H16 nv2 e16 hv2 => ?_
      walk_at "rd"
      refine r_reprOO (o := brkO B.ls B.due s nn) (SqL.of hv2) hbs6 ?_
      walk_at "rd"
      refine w_ndec (fun h => absurd rfl h) (fun _ => ?_)
      have e1116 := e1213.trans (e14.trans (e15.trans e16))
      have M16 := M11.keep e1116
      obtain ⟨ad16, kd16, lv16, kvs16, hI16⟩ := id M16
      have hp16 := hI16.i
      walk_at "rd"
      refine r_dictD hI16.i fun fo H17 nfo e17 hfo => ?_
      have hI17 := hI16.keep e17
      have hp17 := hI17.i
      have D16 := D11.keep e1116
      have D17 := D16.keep e17
      walk_at "rd"
      refine r_minI (SqL.of hI17.l) (by omega) fun mn hmn hmin => ?_
      have hmn2 := okl.l3 mn hmn
      walk_at "rd"
      refine u_take D17 (by omega) (by omega) (by omega) fun y H18 y0 y1 D18 k18 => ?_
      have hfo18 := k18 _ _ hfo (D16.nst nfo) (D16.nl nfo)
      walk_at "rd"
      refine r_kDPutS hfo18 (by rw [mkv_len]; decide) fun H19 b19 h19 => ?_
      rw [mq5] at h19
      have k1619 : Kp st l H16 H19 := ((Kp.of e17).trans k18).mut b19 nfo
      have k519 := (k511.trans (Kp.of e1116)).trans k1619
      have D19 : DS st l c cs _ H19 := D18.but D16 nfo b19
      have M19 := hI16.kp k1619 D16
      have B19 := hBk5.kp k519 D5
      have htv19 : H19 tv = some (.tup [.str s, .int nn]) := k1619.tup D16 (e1116 _ _ htv)
      obtain ⟨_, _, _, _, _, i19⟩ := id B19
      have oka : ({ B with due := y } : Bk).Ok := ⟨ok.l1, ok.l2, ok.l3, y0, fun x hx => by have := hmin x hx; show y < x; omega, ok.kn, ok.m0, ok.m1, ok.bg⟩
      have lka : ({ B with due := y } : Bk).LaidOk := fun ns h => lok ns h
      walk_at "rd"
      refine r_kMeth i19.i rfl ?_
      walk_at "rd"
      refine ⟨q, { B with ks := ks }, { B with ks := ks, due := y }, "due", .int y, rfl, B19, WP.due (B := { B with ks := ks }) _, oka.perm pm, lka.perm pm, fun q2 H20 ks2 nq2 e20 pm2 so2 hB2 => ?_⟩
      walk_at "rd"
      refine ⟨q2, tv, _, s, nn, rfl, hB2, oka.perm (pm2.trans pm), e20 _ _ htv19, hs, n0, n1, fun H21 e21 => ?_⟩
      have e1921 := e20.trans e21
      have N19 : MdlIn l H19 fo { B with due := y } _ _ _ _ := ⟨h19, M19.l, hI16.n, M19.k, M19.a, M19.d⟩
      walk_at "rd"
      refine ⟨l, fo, tv, { B with due := y }, s, nn, rfl, ⟨_, _, _, _, N19.keep e1921⟩, okl, e1921 _ _ htv19, fun H22 e22 => ?_⟩
      walk_at "rd"
      refine r_neO ?_
      have e1922 := e1921.trans e22
      have D22 := D19.keep e1922
      have htv22 := e1922 _ _ htv19
      walk_at "rd"
      refine r_listT (SqT.of htv22) fun w1 H23 nw1 e23 hw1 => ?_
      have htv23 := e23 _ _ htv22
      walk_at "rd"
      refine r_kTup fun w2 H24 nw2 e24 hw2 => ?_
      have htv24 := e24 _ _ htv23
      walk_at "rd"
      refine r_catA1' htv24 hw2 (by simp) fun w3 H25 e25 hw3 => ?_
      have htv25 := e25 _ _ htv24
      walk_at "rd"
      refine r_ixT (SqT.of htv25) (at_get (n := 0) rfl rfl) ?_
      walk_at "rd"
      refine r_kTup fun w4 H26 nw4 e26 hw4 => ?_
      have htv26 := e26 _ _ htv25
      walk_at "rd"
      refine r_ixT (SqT.of htv26) (at_get (n := 0) rfl rfl) ?_
      walk_at "rd"
      refine r_kTup fun w5 H27 nw5 e27 hw5 => ?_
      have htv27 := e27 _ _ htv26
      walk_at "rd"
      refine r_ixT (SqT.of htv27) (at_get (n := 0) rfl rfl) ?_
      walk_at "rd"
      refine r_kTup fun w6 H28 nw6 e28 hw6 => ?_
      walk_at "rd"
      refine r_kTup fun w7 H29 nw7 e29 hw7 => ?_
      walk_at "rd"
      refine r_kLst fun wl H30 nwl e30 hwl => ?_
      have D23 := D22.keep e23
      have D24 := D23.keep e24
      have D25 := D24.keep e25
      have D26 := D25.keep e26
      have D27 := D26.keep e27
      have D28 := D27.keep e28
      have D29 := D28.keep e29
      have g28 := e28.trans e29
      have g27 := e27.trans g28
      have g26 := e26.trans g27
      have g25 := e25.trans g26
      have g24 := e24.trans g25
      have g23 := e23.trans g24
      have g22 := g23
      have z0 : ∀ y ∈ ([] : List V), Sh st l H29 y := fun _ h => (by cases h)
      have z1 : ∀ (i : Int), ∀ y ∈ [V.int i], Sh st l H29 y := fun i => fcons (.int i) z0
      have htv29 := g23 _ _ htv22
      have tvs := D29.ntup htv29
      have hw329 := g26 _ _ hw3
      have w3s := D29.ntup hw329
      have a0 : Sh st l H29 (.ref tv) := .tup tvs.1 tvs.2 htv29 (by simp) (fcons (.str _) (z1 _))
      have a1' : Sh st l H29 (.ref w1) := .lst (D22.nst nw1) (D22.nl nw1) (g24 _ _ hw1)
      have a3 : Sh st l H29 (.ref w3) := .tup w3s.1 w3s.2 hw329 (by simp) (fcons (.str _) (fcons (.int _) (z1 1)))
      have a4 : Sh st l H29 (.ref w4) := .tup (D25.nst nw4) (D25.nl nw4) (g27 _ _ hw4) (by simp) (fcons (.str _) (z1 _))
      have a5 : Sh st l H29 (.ref w5) := .tup (D26.nst nw5) (D26.nl nw5) (g28 _ _ hw5) (by simp) (fcons (.str _) (z1 _))
      have a6 : Sh st l H29 (.ref w6) := .tup (D27.nst nw6) (D27.nl nw6) (e29 _ _ hw6) (by simp) (fcons (.str _) (fcons (.bl _) z0))
      have a7 : Sh st l H29 (.ref w7) := .tup (D28.nst nw7) (D28.nl nw7) hw7 (by simp) (fcons (.str _) (z1 _))
      walk_at "rd"
      refine u_pick D29 (by omega) nwl e30 hwl (by simp) (by simp) fun i6 x6 H31 hx6 D31 k31 => ?_
      have pk : ∀ {H0 : Hp} {i : Nat} {x : V} (xs : List V), xs[i]? = some x → (∀ y ∈ xs, Sh st l H0 y) → Sh st l H0 x := fun xs h1 h2 => h2 _ (List.mem_of_getElem? h1)
      have sh6 : Sh st l H31 x6 := Sh.kp k31 (pk _ hx6 (fcons a0 (fcons a1' (fcons a3 (fcons a4 (fcons a5 (fcons a6 (fcons a7 z0))))))))
      have htv31 := k31.tup D29 htv29
      walk_at "rd"
      refine ⟨st, l, c, cs, _, rfl, (by omega : _ ≤ (8796093022208 : Int)), D31, fun o1 H32 sh1 D32 k32 => ?_⟩
      walk_at "rd"
      refine ⟨st, l, c, cs, _, rfl, (by omega : _ ≤ (8796093022208 : Int)), D32, fun o2 H33 sh2 D33 k33 => ?_⟩
      walk_at "rd"
      refine r_kTup fun u1 H34 nu1 e34 hu1 => ?_
      have D34 := D33.keep e34
      have k3134 := (k32.trans k33).trans (Kp.of e34)
      have htv34 := k3134.tup D31 htv31
      walk_at "rd"
      refine r_ixT (SqT.of htv34) (at_get (n := 0) rfl rfl) ?_
      walk_at "rd"
      refine ⟨st, l, c, cs, _, rfl, (by omega : _ ≤ (8796093022208 : Int)), D34, fun o3 H35 sh3 D35 k35 => ?_⟩
      walk_at "rd"
      refine r_kTup fun u2 H36 nu2 e36 hu2 => ?_
      have D36 := D35.keep e36
      have k3436 := k35.trans (Kp.of e36)
      walk_at "rd"
      refine r_kLst fun ul H37 nul e37 hul => ?_
      have z2 : ∀ y ∈ ([] : List V), Sh st l H36 y := fun _ h => (by cases h)
      have b0 : Sh st l H36 x6 := sh6.kp (k3134.trans k3436)
      have b1 : Sh st l H36 o1 := sh1.kp (((k33.trans (Kp.of e34))).trans k3436)
      have b2 : Sh st l H36 (.ref u1) := (Sh.tup (D33.nst nu1) (D33.nl nu1) hu1 (by simp) (fcons (sh2.kp (Kp.of e34)) (fcons (.int _) (fun _ h => (by cases h))))).kp k3436
      have b3 : Sh st l H36 (.ref u2) := .tup (D35.nst nu2) (D35.nl nu2) hu2 (by simp) (fcons (.str _) (fcons (sh3.kp (Kp.of e36)) z2))
      walk_at "rd"
      refine u_pick D36 (by omega) nul e37 hul (by simp) (by simp) fun i9 x9 H38 hx9 D38 k38 => ?_
      have sh9 : Sh st l H38 x9 := Sh.kp k38 (pk _ hx9 (fcons b0 (fcons b0 (fcons b1 (fcons b2 (fcons b3 z2))))))
      obtain ⟨b, hb⟩ := sh9.vw (K := K)
      walk_at "rd"
      refine ⟨x9, b, rfl, hb, fun H39 e39 => ?_⟩
      walk_at "rd"
      refine ⟨x9, b, rfl, hb.same e39, fun H40 e40 => ?_⟩
      walk_at "rd"
      refine r_kLst fun v3 H41 nv3 e41 hv3 => ?_
      walk_at "rd"
      refine r_reprBB (SqL.of hv3) ?_
      walk_at "rd"
      have e3841 := e39.trans (e40.trans e41)
      refine ⟨x9, b, rfl, hb.same e3841, fun H42 e42 => ?_⟩
      walk_at "rd"
      refine r_kLst fun v4 H43 nv4 e43 hv4 => ?_
      walk_at "rd"
      refine r_rep' hv4 (by decide) (by decide) (by simp) fun v5 H44 nv5 e44 hv5 => ?_
      walk_at "rd"
      refine r_reprBB (b := b) (SqL.of hv5) ?_
      walk_at "rd"
      refine w_ndec (fun h => absurd rfl h) (fun _ => ?_)
      have e3844 := e3841.trans (e42.trans (e43.trans e44))
      walk_at "rd"
      exact ⟨_, _, _, _, _, _, rfl, (D38.keep e3844).mono (by rw [Int.natCast_add]; omega), ((((((k519.trans (Kp.of e1922)).trans (Kp.of g22)).trans k31).trans (k3134.trans k3436)).trans k38).trans (Kp.of e3844))⟩
    rintro σ' H6 ⟨y6, y7, y8, y9, y10, y11, rfl, D6, k6⟩
    walk_at "rd"
    refine r_kForR1 (fun j σ' H' => ∃ (y6 y7 y8 y9 y10 y11 y12 y13 y14 : Option V), σ' = [some (.ref a), some (.ref st), some (.int (i0 : Int)), some (.ref p), some (.ref q), some (.int (mx + B.due)), y6, y7, y8, y9, y10, y11, y12, y13, y14] ∧ DS st l c cs (1000 * (i0 : Int) + 700 + 20 * (j : Int)) H' ∧ Kp st l H5 H')
      (by omega) ⟨_, _, _, _, _, _, _, _, _, rfl, D6.mono (by omega), k6⟩ ?_ ?_
    · clear D6 k6
      rintro j σ' H6 hj ⟨y6, y7, y8, y9, y10, y11, y12, y13, y14, rfl, D6, k6⟩
      walk_at "rd"
      refine u_take D6 (by omega) (by omega) (by omega) fun t1 H7 t10 t11 D7 k7 => ?_
      walk_at "rd"
      refine u_take D7 (by omega) (by omega) (by omega) fun t2 H8 t20 t21 D8 k8 => ?_
      walk_at "rd"
      refine r_kLst fun a1 H9 na1 e9 ha1 => ?_
      walk_at "rd"
      refine u_pick D8 (by omega) na1 e9 ha1 (by simp) (by simp) fun i1 x1 H10 hx1 D10 k10 => ?_
      obtain ⟨d, rfl, d0, d1⟩ := IntsIn.get (lo := 0) (hi := 2000) (by simp [IntsIn]; omega) hx1
      have k510 := ((k6.trans k7).trans k8).trans k10
      have M10 := hM5.kp k510 D5
      obtain ⟨ad10, kd10, lv10, kvs10, hI10⟩ := id M10
      have hp10 := hI10.i
      walk_at "rd"
      refine r_kLst fun a2 H11 na2 e11 ha2 => ?_
      walk_at "rd"
      refine u_pick D10 (by omega) na2 e11 ha2 (by simp) (by simp) fun i2 x2 H12 hx2 D12 k12 => ?_
      obtain ⟨m, rfl, m0, m1⟩ := IntsIn.get (lo := 0) (hi := 2000) (by simp [IntsIn]; omega) hx2
      have k512 := k510.trans k12
      have M12 := hM5.kp k512 D5
      have B12 := hBk5.kp k512 D5
      walk_at "rd"
      refine r_kTup fun tt H13 ntt e13 htt => ?_
      walk_at "rd"
      refine r_kLcR2 (fun Da i H' => Same H13 H' ∧ H' Da = some (.lst ((goodL B.ls B.due m d i).map V.int))) (by omega) (fun Da H' _ e h => ⟨e, h⟩) ?_ ?_
      · rintro Da i H' hD hi ⟨e14, hDa⟩
        have hgl := goodL_len B.ls B.due m d i
        walk_at "rd"
        refine ⟨l, p, B, _, rfl, M12.keep (e13.trans e14), okl, fun H15 e15 => ?_⟩
        walk_at "rd"
        refine w_dec (fun g => ?_) (fun g => ?_)
        · walk_at "rd"
          refine r_kLcE (e15 _ _ hDa) (by rw [List.length_map]; omega) fun H16 b16 h16 => ⟨Same.mut (e14.trans e15) b16 hD, ?_⟩
          rw [goodL_snoc, if_pos g, List.map_append]
          exact h16
        · exact ⟨e14.trans e15, by rw [goodL_snoc, if_neg g, List.append_nil]; exact e15 _ _ hDa⟩
      rintro la H14 nla ⟨e14, hla⟩
      have hn : (d + 125 - d).toNat = B.ls.sum.toNat + (125 - B.ls.sum.toNat) := by omega
      rw [hn] at hla
      have hhd := goodL_head B.ls B.due m d (B.ls.sum.toNat + (125 - B.ls.sum.toNat))
      rw [nextO_round okl] at hhd
      have hsm := nextO_small (ls := B.ls) (u := B.due) (m := m) (n := B.ls.sum.toNat) d0 d1 (by omega)
      generalize hgg : goodL B.ls B.due m d (B.ls.sum.toNat + (125 - B.ls.sum.toNat)) = gl at hla hhd
      generalize hoo : nextO B.ls B.due m d B.ls.sum.toNat = oo at hhd hsm
      have h60 : (10000 : Nat) < 10 ^ 60 := by decide
      have hsm6 : ∀ x, oo = some x → x.natAbs < 10 ^ 60 := fun x hx => by have := hsm x hx; omega
      walk_at "rd"
      refine r_kLst fun nl2 H15 nnl e15 hnl => ?_
      have hla15 := e15 _ _ hla
      refine r_neNilA (SqL.of hla15) (SqL.of hnl) ?_
      have e1215 := e13.trans (e14.trans e15)
      walk_at "rd"
      cases gl with
      | nil =>
        obtain rfl : oo = none := hhd.symm
        refine w_ndec (fun h => absurd rfl h) (fun _ => ?_)
        walk_at "rd"
        refine ⟨q, { B with ks := ks }, d, m, rfl, B12.keep e1215, okp, d0, d1, m0, m1, fun H16 e16 => ?_⟩
        rw [show nextO ({ B with ks := ks } : Bk).ls ({ B with ks := ks } : Bk).due m d ({ B with ks := ks } : Bk).ls.sum.toNat = nextO B.ls B.due m d B.ls.sum.toNat from rfl, hoo]
        walk_at "rd"
        refine ⟨q, { B with ks := ks }, d, m, rfl, B12.keep (e1215.trans e16), okp, d0, d1, m0, m1, fun H17 e17 => ?_⟩
        rw [show nextO ({ B with ks := ks } : Bk).ls ({ B with ks := ks } : Bk).due m d ({ B with ks := ks } : Bk).ls.sum.toNat = nextO B.ls B.due m d B.ls.sum.toNat from rfl, hoo]
        walk_at "rd"
        refine r_kLst fun v1 H18 nv1 e18 hv1 => ?_
        walk_at "rd"
        refine r_reprOO (o := none) (SqL.of hv1) hsm6 ?_
        walk_at "rd"
        refine r_kLst fun v2 H19 nv2 e19 hv2 => ?_
        walk_at "rd"
        refine r_reprOO (o := none) (SqL.of hv2) hsm6 ?_
        walk_at "rd"
        refine w_ndec (fun h => absurd rfl h) (fun _ => ?_)
        have e1219 := e1215.trans (e16.trans (e17.trans (e18.trans e19)))
        walk_at "rd"
        exact ⟨_, _, _, _, _, _, _, _, _, rfl, (D12.keep e1219).mono (by rw [Int.natCast_add]; omega), k512.trans (Kp.of e1219)⟩
      | cons x xs =>
        obtain rfl : oo = some x := hhd.symm
        refine w_ndec (fun _ => ?_) (fun h => absurd h (by simp))
        walk_at "rd"
        refine r_ixL (SqL.of hla15) (at_get (n := 0) rfl rfl) ?_
        walk_at "rd"
        refine ⟨q, { B with ks := ks }, d, m, rfl, B12.keep e1215, okp, d0, d1, m0, m1, fun H16 e16 => ?_⟩
        rw [show nextO ({ B with ks := ks } : Bk).ls ({ B with ks := ks } : Bk).due m d ({ B with ks := ks } : Bk).ls.sum.toNat = nextO B.ls B.due m d B.ls.sum.toNat from rfl, hoo]
        walk_at "rd"
        refine ⟨q, { B with ks := ks }, d, m, rfl, B12.keep (e1215.trans e16), okp, d0, d1, m0, m1, fun H17 e17 => ?_⟩
        rw [show nextO ({ B with ks := ks } : Bk).ls ({ B with ks := ks } : Bk).due m d ({ B with ks := ks } : Bk).ls.sum.toNat = nextO B.ls B.due m d B.ls.sum.toNat from rfl, hoo]
        walk_at "rd"
        refine r_kLst fun v1 H18 nv1 e18 hv1 => ?_
        walk_at "rd"
        refine r_reprOO (o := some x) (SqL.of hv1) hsm6 ?_
        walk_at "rd"
        refine r_kLst fun v2 H19 nv2 e19 hv2 => ?_
        walk_at "rd"
        refine r_reprOO (o := some x) (SqL.of hv2) hsm6 ?_
        walk_at "rd"
        refine w_ndec (fun h => absurd rfl h) (fun _ => ?_)
        have e1219 := e1215.trans (e16.trans (e17.trans (e18.trans e19)))
        walk_at "rd"
        exact ⟨_, _, _, _, _, _, _, _, _, rfl, (D12.keep e1219).mono (by rw [Int.natCast_add]; omega), k512.trans (Kp.of e1219)⟩
    rintro σ' H7 ⟨y6, y7, y8, y9, y10, y11, y12, y13, y14, rfl, D7, k7⟩
    walk_at "rd"
    exact ⟨_, _, _, _, _, _, _, _, _, _, _, _, _, rfl, D7.mono (by rw [Int.natCast_add]; omega)⟩
  · rintro σ' H3 ⟨x2, x3, x4, x5, x6, x7, x8, x9, x10, x11, x12, x13, x14, rfl, D3⟩
    walk_at "rd"
    exact k H3
end
end Wp
set_option Elab.async false
set_option linter.all false
set_option maxRecDepth 100000
set_option maxHeartbeats 0
namespace Wp
open PySem PySem.Spec PyProof.Rows L2
theorem factsL {P : Program} {w : World} {K : PySem.W.Frag} {h : Heap} {mg : Str → Option Value} {f : Addr} (X : K.In h) (G : h.Ns mainGlobals mg) (hfa : mg ("law" : Str) = some (.ref f)) (c : He.SaysD faL fnL K) (ex : exB K = true) (gg : ∀ d ∈ gsL, PropOf K (He.ga K d.c) d.f (He.ma K (He.ga K d.c) d.f) (gAd K d.c d.f) ∧ ∃ fd, FunD K d.f d.qual d.params d.body d.scope [] [] (gAd K d.c d.f) fd) :
    ∃ fd : FuncData, (∀ (s : Shared) (v : Value), BindsTo s fd ⟨[v], []⟩ [("_law_script", v)]) ∧ ∀ base : Heap, K.In base → base.Ns mainGlobals mg → FnG P w K mg base CX0 10 f fd ["_law_script"] (spLaw K) := by
  obtain ⟨fd__law_begun, F__law_begun⟩ := c.def_ 0 (d := D__law_begun) rfl
  obtain ⟨fd__law_mixed, F__law_mixed⟩ := c.def_ 1 (d := D__law_mixed) rfl
  obtain ⟨fd__law_take, F__law_take⟩ := c.def_ 2 (d := D__law_take) rfl
  obtain ⟨fd__law_pick, F__law_pick⟩ := c.def_ 3 (d := D__law_pick) rfl
  obtain ⟨fd__law_names, F__law_names⟩ := c.def_ 4 (d := D__law_names) rfl
  obtain ⟨fd__law_some, F__law_some⟩ := c.def_ 5 (d := D__law_some) rfl
  obtain ⟨fd_is_number, F_is_number⟩ := c.def_ 6 (d := D_is_number) rfl
  obtain ⟨fd_is_number_in, F_is_number_in⟩ := c.def_ 7 (d := D_is_number_in) rfl
  obtain ⟨fd_is_list, F_is_list⟩ := c.def_ 8 (d := D_is_list) rfl
  obtain ⟨fd_is_name, F_is_name⟩ := c.def_ 9 (d := D_is_name) rfl
  obtain ⟨fd_are_lengths, F_are_lengths⟩ := c.def_ 10 (d := D_are_lengths) rfl
  obtain ⟨fd_is_kind, F_is_kind⟩ := c.def_ 11 (d := D_is_kind) rfl
  obtain ⟨fd_are_kinds, F_are_kinds⟩ := c.def_ 12 (d := D_are_kinds) rfl
  obtain ⟨fd_is_order, F_is_order⟩ := c.def_ 13 (d := D_is_order) rfl
  obtain ⟨fd_Book___init__, F_Book___init__⟩ := c.def_ 14 (d := D_Book___init__) rfl
  obtain ⟨fd_Book_parts_told, F_Book_parts_told⟩ := c.def_ 15 (d := D_Book_parts_told) rfl
  obtain ⟨fd_Book_with_part, F_Book_with_part⟩ := c.def_ 16 (d := D_Book_with_part) rfl
  obtain ⟨fd_Book_first_at, F_Book_first_at⟩ := c.def_ 17 (d := D_Book_first_at) rfl
  obtain ⟨fd_Book_due_at, F_Book_due_at⟩ := c.def_ 18 (d := D_Book_due_at) rfl
  obtain ⟨fd_Book_month_at, F_Book_month_at⟩ := c.def_ 19 (d := D_Book_month_at) rfl
  obtain ⟨fd_need_book, F_need_book⟩ := c.def_ 20 (d := D_need_book) rfl
  obtain ⟨fd_need_number, F_need_number⟩ := c.def_ 21 (d := D_need_number) rfl
  obtain ⟨fd_days_at, F_days_at⟩ := c.def_ 22 (d := D_days_at) rfl
  obtain ⟨fd_round_of, F_round_of⟩ := c.def_ 23 (d := D_round_of) rfl
  obtain ⟨fd_next_day, F_next_day⟩ := c.def_ 24 (d := D_next_day) rfl
  obtain ⟨fd_is_promise, F_is_promise⟩ := c.def_ 25 (d := D_is_promise) rfl
  obtain ⟨fd_breaker, F_breaker⟩ := c.def_ 26 (d := D_breaker) rfl
  obtain ⟨fd__law_model, F__law_model⟩ := c.def_ 27 (d := D__law_model) rfl
  obtain ⟨fd__law_made, F__law_made⟩ := c.def_ 28 (d := D__law_made) rfl
  obtain ⟨fd__law_first, F__law_first⟩ := c.def_ 29 (d := D__law_first) rfl
  obtain ⟨fd__law_month, F__law_month⟩ := c.def_ 30 (d := D__law_month) rfl
  obtain ⟨fd__law_due, F__law_due⟩ := c.def_ 31 (d := D__law_due) rfl
  obtain ⟨fd__law_can_stand, F__law_can_stand⟩ := c.def_ 32 (d := D__law_can_stand) rfl
  obtain ⟨fd__law_is_vow, F__law_is_vow⟩ := c.def_ 33 (d := D__law_is_vow) rfl
  obtain ⟨fd__law_broken, F__law_broken⟩ := c.def_ 34 (d := D__law_broken) rfl
  obtain ⟨fd__law_odd, F__law_odd⟩ := c.def_ 35 (d := D__law_odd) rfl
  obtain ⟨fd_law, F_law⟩ := c.def_ 36 (d := D_law) rfl
  obtain ⟨pr_Book_lengths, fd_Book_lengths, F_Book_lengths⟩ := gg G_Book_lengths (List.mem_of_getElem? (i := 0) rfl)
  have e := hfa.symm.trans (He.glo_ok X G (c.fact 30 (f := .glo "law") rfl))
  cases e
  have ex12 : (insB K (He.ga K "Book") && He.tupB K "PARTS" [.str "lengths", .str "due", .str "kinds", .str "memory", .str "begins", .str "laid"]) = true := ex
  have tup_PARTS := (He.ba ex12).2
  have T : Tx K mg := { b_all := He.free_ok X G (c.fact 37 (f := .free "all") rfl), b_bool := He.free_ok X G (c.fact 38 (f := .free "bool") rfl), b_dict := He.free_ok X G (c.fact 39 (f := .free "dict") rfl), b_enumerate := He.free_ok X G (c.fact 40 (f := .free "enumerate") rfl), b_int := He.free_ok X G (c.fact 41 (f := .free "int") rfl), b_isinstance := He.free_ok X G (c.fact 42 (f := .free "isinstance") rfl), b_len := He.free_ok X G (c.fact 43 (f := .free "len") rfl), b_list := He.free_ok X G (c.fact 44 (f := .free "list") rfl), b_max := He.free_ok X G (c.fact 45 (f := .free "max") rfl), b_min := He.free_ok X G (c.fact 46 (f := .free "min") rfl), b_range := He.free_ok X G (c.fact 47 (f := .free "range") rfl), b_repr := He.free_ok X G (c.fact 48 (f := .free "repr") rfl), b_sorted := He.free_ok X G (c.fact 49 (f := .free "sorted") rfl), b_str := He.free_ok X G (c.fact 50 (f := .free "str") rfl), b_sum := He.free_ok X G (c.fact 51 (f := .free "sum") rfl), b_super := He.free_ok X G (c.fact 52 (f := .free "super") rfl), b_tuple := He.free_ok X G (c.fact 53 (f := .free "tuple") rfl), b_zip := He.free_ok X G (c.fact 54 (f := .free "zip") rfl), c_DAY := He.str_ok X G (c.fact 55 (f := .str "DAY" "day") rfl), c_EACH := He.str_ok X G (c.fact 56 (f := .str "EACH" "each") rfl), c_LETTERS := He.str_ok X G (c.fact 57 (f := .str "LETTERS" "abcdefghijklmnopqrstuvwxyz") rfl), c_LONGEST := He.int_ok X G (c.fact 58 (f := .int "LONGEST" 31) rfl), c_MOST_DAY := He.int_ok X G (c.fact 59 (f := .int "MOST_DAY" 2000) rfl), c_MOST_DAYS := He.int_ok X G (c.fact 60 (f := .int "MOST_DAYS" 100) rfl), c_MOST_KINDS := He.int_ok X G (c.fact 61 (f := .int "MOST_KINDS" 6) rfl), c_MOST_LENGTHS := He.int_ok X G (c.fact 62 (f := .int "MOST_LENGTHS" 4) rfl), c_MOST_MEMORY := He.int_ok X G (c.fact 63 (f := .int "MOST_MEMORY" 2) rfl), c_MOST_NAME := He.int_ok X G (c.fact 64 (f := .int "MOST_NAME" 8) rfl), c_MOST_RATE := He.int_ok X G (c.fact 65 (f := .int "MOST_RATE" 1000) rfl), g_PARTS := He.glo_ok X G (c.fact 66 (f := .glo "PARTS") rfl), t_PARTS := fun H => He.tupB_ok tup_PARTS H, c_SHORTEST := He.int_ok X G (c.fact 67 (f := .int "SHORTEST" 2) rfl), c_SOME := He.str_ok X G (c.fact 68 (f := .str "SOME" "some") rfl), c_STATEMENT := He.str_ok X G (c.fact 69 (f := .str "STATEMENT" "statement") rfl), g_CreditError := He.glo_ok X G (c.fact 31 (f := .glo "CreditError") rfl), g_BadBook := He.glo_ok X G (c.fact 32 (f := .glo "BadBook") rfl), g_BadPart := He.glo_ok X G (c.fact 33 (f := .glo "BadPart") rfl), g_BadNumber := He.glo_ok X G (c.fact 34 (f := .glo "BadNumber") rfl), g_BadPromise := He.glo_ok X G (c.fact 35 (f := .glo "BadPromise") rfl), g_Book := He.glo_ok X G (c.fact 36 (f := .glo "Book") rfl) }
  have clBook := He.cls_ok (c.fact 70 (f := .cls "Book") rfl)
  have mkBook := He.mkr_ok (c.fact 71 (f := .mkr "Book") rfl)
  have insBook := insB_ok clBook (He.ba ex12).1
  have bcBook : BkC K (He.ga K "Book") := ⟨clBook, He.noat_ok (c.fact 72 (f := .noat "Book" "b_lengths") rfl), He.noat_ok (c.fact 73 (f := .noat "Book" "b_due") rfl), He.noat_ok (c.fact 74 (f := .noat "Book" "b_kinds") rfl), He.noat_ok (c.fact 75 (f := .noat "Book" "b_memory") rfl), He.noat_ok (c.fact 76 (f := .noat "Book" "b_begins") rfl), He.noat_ok (c.fact 77 (f := .noat "Book" "b_laid") rfl)⟩
  obtain ⟨bds, bvs, bBook'⟩ := FunD.binds1 (ps := ["self", "lengths", "due", "kinds", "memory", "begins", "laid"]) F_Book___init__ 7 3 (List.cons_ne_nil _ _) rfl (fun T' kV doc pm an cdv ct us its h1 h2 => match us, its, h1, h2 with | [_, _, _, _, _, _, _], [_, _, _], _, _ => ⟨_, rfl, rfl⟩)
  have bBook : Binds K fd_Book___init__ ["self", "lengths", "due", "kinds", "memory", "begins", "laid"] [] := by cases bvs; exact bBook'
  have b := FunD.bindsA (ps := ["_law_script"]) F_law fun _ _ _ _ _ _ us hl => match us, hl with | [_], _ => rfl
  refine ⟨fd_law, fun s v => b s [v] rfl, fun base inB nsB => ?_⟩
  have m_lengths : Dpr P w K mg base CX0 1 (He.ga K "Book") "lengths" (sp_g_lengths (He.ga K "Book")) := ⟨⟨_, _, _, _, pr_Book_lengths, ok_Book_lengths T bcBook F_Book_lengths, FunD.bindsN F_Book_lengths fun _ _ _ _ _ _ us hl => match us, hl with | [_], _ => rfl⟩, clBook⟩
  have d__law_begun : Dn P w K mg base CX0 1 "_law_begun" ["_law_script"] (sp_begun K) := ⟨⟨_, ok__law_begun T F__law_begun, FunD.bindsN F__law_begun fun _ _ _ _ _ _ us hl => match us, hl with | [_], _ => rfl⟩, He.glo_ok X G (c.fact 0 (f := .glo "_law_begun") rfl), F__law_begun.kp⟩
  have d__law_mixed : Dn P w K mg base CX0 1 "_law_mixed" ["_law_state"] sp_mixed := ⟨⟨_, ok__law_mixed T F__law_mixed, FunD.bindsN F__law_mixed fun _ _ _ _ _ _ us hl => match us, hl with | [_], _ => rfl⟩, He.glo_ok X G (c.fact 1 (f := .glo "_law_mixed") rfl), F__law_mixed.kp⟩
  have d__law_take : Dn P w K mg base CX0 2 "_law_take" ["_law_state", "_law_size"] sp_take := ⟨⟨_, ok__law_take T F__law_take d__law_mixed, FunD.bindsN F__law_take fun _ _ _ _ _ _ us hl => match us, hl with | [_, _], _ => rfl⟩, He.glo_ok X G (c.fact 2 (f := .glo "_law_take") rfl), F__law_take.kp⟩
  have d__law_pick : Dn P w K mg base CX0 3 "_law_pick" ["_law_state", "_law_some_here"] sp_pick := ⟨⟨_, ok__law_pick T F__law_pick d__law_take, FunD.bindsN F__law_pick fun _ _ _ _ _ _ us hl => match us, hl with | [_, _], _ => rfl⟩, He.glo_ok X G (c.fact 3 (f := .glo "_law_pick") rfl), F__law_pick.kp⟩
  have d__law_pickS : Dn P w K mg base CX0 3 "_law_pick" ["_law_state", "_law_some_here"] sp_pickS := ⟨⟨_, ok__law_pickS T F__law_pick d__law_take, FunD.bindsN F__law_pick fun _ _ _ _ _ _ us hl => match us, hl with | [_, _], _ => rfl⟩, d__law_pick.gm, d__law_pick.kp⟩
  have d__law_names : Dn P w K mg base CX0 4 "_law_names" ["_law_state", "_law_many"] sp_names := ⟨⟨_, ok__law_names T F__law_names d__law_take d__law_pick d__law_pickS, FunD.bindsN F__law_names fun _ _ _ _ _ _ us hl => match us, hl with | [_, _], _ => rfl⟩, He.glo_ok X G (c.fact 4 (f := .glo "_law_names") rfl), F__law_names.kp⟩
  have d__law_some : Dn P w K mg base CX0 3 "_law_some" ["_law_state", "_law_some_here", "_law_many"] sp_some := ⟨⟨_, ok__law_some T F__law_some d__law_take, FunD.bindsN F__law_some fun _ _ _ _ _ _ us hl => match us, hl with | [_, _, _], _ => rfl⟩, He.glo_ok X G (c.fact 5 (f := .glo "_law_some") rfl), F__law_some.kp⟩
  have d_is_number : Dn P w K mg base CX0 1 "is_number" ["value"] (sp_is_number K) := ⟨⟨_, ok_is_number T F_is_number, FunD.bindsN F_is_number fun _ _ _ _ _ _ us hl => match us, hl with | [_], _ => rfl⟩, He.glo_ok X G (c.fact 6 (f := .glo "is_number") rfl), F_is_number.kp⟩
  have d_is_number_in : Dn P w K mg base CX0 2 "is_number_in" ["value", "least", "most"] (sp_is_number_in K) := ⟨⟨_, ok_is_number_in T F_is_number_in d_is_number, FunD.bindsN F_is_number_in fun _ _ _ _ _ _ us hl => match us, hl with | [_, _, _], _ => rfl⟩, He.glo_ok X G (c.fact 7 (f := .glo "is_number_in") rfl), F_is_number_in.kp⟩
  have d_is_list : Dn P w K mg base CX0 1 "is_list" ["value"] (sp_is_list K) := ⟨⟨_, ok_is_list T F_is_list, FunD.bindsN F_is_list fun _ _ _ _ _ _ us hl => match us, hl with | [_], _ => rfl⟩, He.glo_ok X G (c.fact 8 (f := .glo "is_list") rfl), F_is_list.kp⟩
  have d_is_name : Dn P w K mg base CX0 1 "is_name" ["value"] sp_is_name := ⟨⟨_, ok_is_name T F_is_name, FunD.bindsN F_is_name fun _ _ _ _ _ _ us hl => match us, hl with | [_], _ => rfl⟩, He.glo_ok X G (c.fact 9 (f := .glo "is_name") rfl), F_is_name.kp⟩
  have d_are_lengths : Dn P w K mg base CX0 3 "are_lengths" ["value"] (sp_are_lengths K) := ⟨⟨_, ok_are_lengths T F_are_lengths d_is_list d_is_number_in, FunD.bindsN F_are_lengths fun _ _ _ _ _ _ us hl => match us, hl with | [_], _ => rfl⟩, He.glo_ok X G (c.fact 10 (f := .glo "are_lengths") rfl), F_are_lengths.kp⟩
  have d_is_kind : Dn P w K mg base CX0 3 "is_kind" ["value"] sp_is_kind := ⟨⟨_, ok_is_kind T F_is_kind d_is_number_in, FunD.bindsN F_is_kind fun _ _ _ _ _ _ us hl => match us, hl with | [_], _ => rfl⟩, He.glo_ok X G (c.fact 11 (f := .glo "is_kind") rfl), F_is_kind.kp⟩
  have d_are_kinds : Dn P w K mg base CX0 4 "are_kinds" ["value"] sp_are_kinds := ⟨⟨_, ok_are_kinds T F_are_kinds d_is_name d_is_kind, FunD.bindsN F_are_kinds fun _ _ _ _ _ _ us hl => match us, hl with | [_], _ => rfl⟩, He.glo_ok X G (c.fact 12 (f := .glo "are_kinds") rfl), F_are_kinds.kp⟩
  have d_is_order : Dn P w K mg base CX0 2 "is_order" ["names", "value"] sp_is_order := ⟨⟨_, ok_is_order T F_is_order d_is_name, FunD.bindsN F_is_order fun _ _ _ _ _ _ us hl => match us, hl with | [_, _], _ => rfl⟩, He.glo_ok X G (c.fact 13 (f := .glo "is_order") rfl), F_is_order.kp⟩
  have mk_Book : Dc P w K mg base CX0 5 "Book" (sp_Book (He.ga K "Book")) := ⟨⟨_, _, _, _, [], [], mkBook, ok_Book_init T bcBook F_Book___init__ d_is_number_in d_are_lengths d_are_kinds d_is_order, bBook, .nil, fun vs H Q E z => imp_Book vs H Q E z⟩, T.g_Book⟩
  have mt_Book_parts_told : Dm P w K mg base CX0 1 (He.ga K "Book") "parts_told" (sp_parts_told (He.ga K "Book")) := ⟨⟨_, _, _, He.meth_ok (c.fact 78 (f := .meth "Book" "parts_told") rfl), ok_Book_parts_told T bcBook F_Book_parts_told, FunD.bindsN F_Book_parts_told fun _ _ _ _ _ _ us hl => match us, hl with | [_], _ => rfl⟩, clBook⟩
  have mt_Book_with_part : Dm P w K mg base CX0 7 (He.ga K "Book") "with_part" (sp_with_part (He.ga K "Book")) := ⟨⟨_, _, _, He.meth_ok (c.fact 79 (f := .meth "Book" "with_part") rfl), ok_Book_with_part T F_Book_with_part mt_Book_parts_told mk_Book, FunD.bindsN F_Book_with_part fun _ _ _ _ _ _ us hl => match us, hl with | [_, _, _], _ => rfl⟩, clBook⟩
  have mt_Book_first_at : Dm P w K mg base CX0 1 (He.ga K "Book") "first_at" (sp_first_at (He.ga K "Book")) := ⟨⟨_, _, _, He.meth_ok (c.fact 80 (f := .meth "Book" "first_at") rfl), ok_Book_first_at T bcBook F_Book_first_at, FunD.bindsN F_Book_first_at fun _ _ _ _ _ _ us hl => match us, hl with | [_, _], _ => rfl⟩, clBook⟩
  have mt_Book_due_at : Dm P w K mg base CX0 2 (He.ga K "Book") "due_at" (sp_due_at (He.ga K "Book")) := ⟨⟨_, _, _, He.meth_ok (c.fact 81 (f := .meth "Book" "due_at") rfl), ok_Book_due_at T bcBook F_Book_due_at mt_Book_first_at, FunD.bindsN F_Book_due_at fun _ _ _ _ _ _ us hl => match us, hl with | [_, _], _ => rfl⟩, clBook⟩
  have mt_Book_month_at : Dm P w K mg base CX0 1 (He.ga K "Book") "month_at" (sp_month_at (He.ga K "Book")) := ⟨⟨_, _, _, He.meth_ok (c.fact 82 (f := .meth "Book" "month_at") rfl), ok_Book_month_at T bcBook F_Book_month_at, FunD.bindsN F_Book_month_at fun _ _ _ _ _ _ us hl => match us, hl with | [_, _], _ => rfl⟩, clBook⟩
  have d_need_book : Dn P w K mg base CX0 1 "need_book" ["value"] (sp_need_book (He.ga K "Book")) := ⟨⟨_, ok_need_book T insBook F_need_book, FunD.bindsN F_need_book fun _ _ _ _ _ _ us hl => match us, hl with | [_], _ => rfl⟩, He.glo_ok X G (c.fact 14 (f := .glo "need_book") rfl), F_need_book.kp⟩
  have d_need_number : Dn P w K mg base CX0 3 "need_number" ["value"] sp_need_number := ⟨⟨_, ok_need_number T F_need_number d_is_number_in, FunD.bindsN F_need_number fun _ _ _ _ _ _ us hl => match us, hl with | [_], _ => rfl⟩, He.glo_ok X G (c.fact 15 (f := .glo "need_number") rfl), F_need_number.kp⟩
  have d_days_at : Dn P w K mg base CX0 3 "days_at" ["book", "day"] (sp_days_at (He.ga K "Book")) := ⟨⟨_, ok_days_at T F_days_at mt_Book_month_at mt_Book_due_at, FunD.bindsN F_days_at fun _ _ _ _ _ _ us hl => match us, hl with | [_, _], _ => rfl⟩, He.glo_ok X G (c.fact 16 (f := .glo "days_at") rfl), F_days_at.kp⟩
  have d_round_of : Dn P w K mg base CX0 4 "round_of" ["book"] (sp_round_of (He.ga K "Book")) := ⟨⟨_, ok_round_of T F_round_of m_lengths d_days_at, FunD.bindsN F_round_of fun _ _ _ _ _ _ us hl => match us, hl with | [_], _ => rfl⟩, He.glo_ok X G (c.fact 17 (f := .glo "round_of") rfl), F_round_of.kp⟩
  have d_next_day : Dn P w K mg base CX0 4 "next_day" ["book", "day", "days"] (sp_next_day (He.ga K "Book")) := ⟨⟨_, ok_next_day T F_next_day d_need_book d_need_number m_lengths d_days_at, FunD.bindsN F_next_day fun _ _ _ _ _ _ us hl => match us, hl with | [_, _, _], _ => rfl⟩, He.glo_ok X G (c.fact 18 (f := .glo "next_day") rfl), F_next_day.kp⟩
  have d_is_promise : Dn P w K mg base CX0 3 "is_promise" ["value"] (sp_is_promise K) := ⟨⟨_, ok_is_promise T F_is_promise d_is_number_in, FunD.bindsN F_is_promise fun _ _ _ _ _ _ us hl => match us, hl with | [_], _ => rfl⟩, He.glo_ok X G (c.fact 19 (f := .glo "is_promise") rfl), F_is_promise.kp⟩
  have d_breaker : Dn P w K mg base CX0 5 "breaker" ["book", "promise"] (sp_breaker (He.ga K "Book")) := ⟨⟨_, ok_breaker T F_breaker d_need_book d_is_promise m_lengths d_round_of, FunD.bindsN F_breaker fun _ _ _ _ _ _ us hl => match us, hl with | [_, _], _ => rfl⟩, He.glo_ok X G (c.fact 20 (f := .glo "breaker") rfl), F_breaker.kp⟩
  have k_breaker_promise_book : Dq P w K mg base CX0 5 "breaker" ["promise", "book"] swap2 (sp_breaker (He.ga K "Book")) := ⟨⟨_, ["book", "promise"], _, ok_breaker T F_breaker d_need_book d_is_promise m_lengths d_round_of, kbn_of F_breaker swap2_rel fun _ _ _ _ _ _ ws hl => match ws, hl with | [_, _], _ => rfl⟩, He.glo_ok X G (c.fact 20 (f := .glo "breaker") rfl), F_breaker.kp⟩
  have k_is_promise_value : Dq P w K mg base CX0 3 "is_promise" ["value"] keep1 (sp_is_promise K) := ⟨⟨_, ["value"], _, ok_is_promise T F_is_promise d_is_number_in, kbn_of F_is_promise keep1_rel fun _ _ _ _ _ _ ws hl => match ws, hl with | [_], _ => rfl⟩, He.glo_ok X G (c.fact 19 (f := .glo "is_promise") rfl), F_is_promise.kp⟩
  have k_next_day_days_book_day : Dq P w K mg base CX0 4 "next_day" ["days", "book", "day"] rot3 (sp_next_day (He.ga K "Book")) := ⟨⟨_, ["book", "day", "days"], _, ok_next_day T F_next_day d_need_book d_need_number m_lengths d_days_at, kbn_of F_next_day rot3_rel fun _ _ _ _ _ _ ws hl => match ws, hl with | [_, _, _], _ => rfl⟩, He.glo_ok X G (c.fact 18 (f := .glo "next_day") rfl), F_next_day.kp⟩
  have d__law_model : Dn P w K mg base CX0 5 "_law_model" ["_law_state", "_law_many", "_law_is_laid"] sp_model := ⟨⟨_, ok__law_model T F__law_model d__law_take d__law_pick d__law_names d__law_some, FunD.bindsN F__law_model fun _ _ _ _ _ _ us hl => match us, hl with | [_, _, _], _ => rfl⟩, He.glo_ok X G (c.fact 21 (f := .glo "_law_model") rfl), F__law_model.kp⟩
  have d__law_made : Dn P w K mg base CX0 7 "_law_made" ["_law_model_here"] (sp_made (He.ga K "Book")) := ⟨⟨_, ok__law_made T F__law_made mk_Book, FunD.bindsN F__law_made fun _ _ _ _ _ _ us hl => match us, hl with | [_], _ => rfl⟩, He.glo_ok X G (c.fact 22 (f := .glo "_law_made") rfl), F__law_made.kp⟩
  have d__law_first : Dn P w K mg base CX0 1 "_law_first" ["_law_model_here", "_law_mon"] sp_lfirst := ⟨⟨_, ok__law_first T F__law_first , FunD.bindsN F__law_first fun _ _ _ _ _ _ us hl => match us, hl with | [_, _], _ => rfl⟩, He.glo_ok X G (c.fact 23 (f := .glo "_law_first") rfl), F__law_first.kp⟩
  have d__law_month : Dn P w K mg base CX0 2 "_law_month" ["_law_model_here", "_law_date"] sp_lmonth := ⟨⟨_, ok__law_month T F__law_month d__law_first, FunD.bindsN F__law_month fun _ _ _ _ _ _ us hl => match us, hl with | [_, _], _ => rfl⟩, He.glo_ok X G (c.fact 24 (f := .glo "_law_month") rfl), F__law_month.kp⟩
  have d__law_due : Dn P w K mg base CX0 2 "_law_due" ["_law_model_here", "_law_mon"] sp_ldue := ⟨⟨_, ok__law_due T F__law_due d__law_first, FunD.bindsN F__law_due fun _ _ _ _ _ _ us hl => match us, hl with | [_, _], _ => rfl⟩, He.glo_ok X G (c.fact 25 (f := .glo "_law_due") rfl), F__law_due.kp⟩
  have d__law_can_stand : Dn P w K mg base CX0 3 "_law_can_stand" ["_law_model_here", "_law_date"] sp_can_stand := ⟨⟨_, ok__law_can_stand T F__law_can_stand d__law_month d__law_due, FunD.bindsN F__law_can_stand fun _ _ _ _ _ _ us hl => match us, hl with | [_, _], _ => rfl⟩, He.glo_ok X G (c.fact 26 (f := .glo "_law_can_stand") rfl), F__law_can_stand.kp⟩
  have d__law_is_vow : Dn P w K mg base CX0 1 "_law_is_vow" ["_law_thing"] (sp_is_promise K) := ⟨⟨_, ok__law_is_vow T F__law_is_vow , FunD.bindsN F__law_is_vow fun _ _ _ _ _ _ us hl => match us, hl with | [_], _ => rfl⟩, He.glo_ok X G (c.fact 27 (f := .glo "_law_is_vow") rfl), F__law_is_vow.kp⟩
  have d__law_broken : Dn P w K mg base CX0 4 "_law_broken" ["_law_model_here", "_law_vow"] sp_broken := ⟨⟨_, ok__law_broken T F__law_broken d__law_can_stand, FunD.bindsN F__law_broken fun _ _ _ _ _ _ us hl => match us, hl with | [_, _], _ => rfl⟩, He.glo_ok X G (c.fact 28 (f := .glo "_law_broken") rfl), F__law_broken.kp⟩
  have d__law_odd : Dn P w K mg base CX0 4 "_law_odd" ["_law_state"] sp_odd := ⟨⟨_, ok__law_odd T F__law_odd d__law_pick, FunD.bindsN F__law_odd fun _ _ _ _ _ _ us hl => match us, hl with | [_], _ => rfl⟩, He.glo_ok X G (c.fact 29 (f := .glo "_law_odd") rfl), F__law_odd.kp⟩
  exact ok_law T F_law d__law_begun d__law_take d__law_pick d__law_model d__law_made d__law_can_stand d__law_is_vow d__law_broken d__law_odd mt_Book_with_part d_breaker k_breaker_promise_book d_is_promise k_is_promise_value d_next_day k_next_day_days_book_day
end Wp
open PySem PySem.W PySem.Calls PyProof.Rows
set_option maxRecDepth 100000 in
set_option maxHeartbeats 0 in
theorem PySem.Challenge.cw_wholepaid_k31_promises_kept_or_broken_holds : PySem.Challenge.rw_wholepaid_k31_promises_kept_or_broken.Holds := by
  w_on; o_law
  refine HandSHeadRun.head_any (r := Wp.Rw) (q := view Wp.Rw.prog [56]) (H := Wp.hkL) (ob := Wp.obL) (M := 12000) (loose := Wp.looseL) (d := HandSHeadRun.topDef Wp.Rw.prog 56) (kwd := []) Wp.obL_eq
    (by kernel_rfl) (fun s => by kernel_rfl) Wp.runL (by kernel_rfl) (by kernel_rfl) (by kernel_rfl) (by rfl) (by first | assumption | decide +kernel) (by decide +kernel) ⟨rfl, rfl, rfl, rfl, rfl, by decide +kernel⟩ ?hw ?hc
  case hw => w_witness2
  case hc =>
    refine Wp.walk_ofG (l := PySem.Challenge.rw_wholepaid_k31_promises_kept_or_broken) (n := 63) (k := 10) (x := "_law_script") (CX := L2.CX0) rfl (by decide) (by kernel_rfl) ⟨rfl, by decide, by decide⟩ ?F (fun _ _ _ _ z => z)
    intro w mg fa h Y G hmg0
    obtain ⟨K, inK, cX⟩ := Y
    have hmg : mg ("law" : PySem.Str) = some (.ref fa) := by
      have e : (HandSHeadRun.topDef Wp.Rw.prog 56).name = ("law" : PySem.Str) := by kernel_rfl
      rw [← e]
      exact hmg0
    obtain ⟨fd, hb, hF⟩ := Wp.factsL (P := (PySem.Challenge.rw_wholepaid_k31_promises_kept_or_broken).prog) (w := w) inK G hmg cX.x.t.d cX.x.more cX.g
    exact ⟨K, fd, Wp.spLaw K, inK, hb, fun H a zs hl _ hS => ⟨a, zs, rfl, hS, hl, fun _ => rfl⟩, hF⟩
