import PyProof.Rows.All
import Wide.All
import OpenK.AllK
import Wide.FinOn
import KE.KStateDown
import Lean
import HandS.ForMost
import HandS.Exc
import HandS.WordsExc
import HandS.Flow
import HandS.Style
import HandS.IsInst
import HandS.Defaults
import HandS.Conv
import HandS.Evl
import HandS.Steps
import HandS.Head0
import HandS.Head1
import HandS.Head2
import HandS.HeadEnd
import HandS.HeadHook1
import HandS.HeadHook2
import PyProof.ReprRoads
import HandS.MakeKwOnly
import HandS.Codes
import PyProof.ReprLen
import HandS.HeadHook3
import HandS.HeadHook4
import PySem.Challenge.RW_wholepaid_k73_balances_that_end
set_option Elab.async false
set_option linter.all false
set_option maxRecDepth 100000
set_option maxHeartbeats 4000000
/-! The layer of this repo over the hand layer: defs called by their names, repr of data, the draws. -/
namespace Wp
open PySem PySem.Spec PyProof.Rows L2

/-- a def of the top as it stands -/
abbrev FnP (K : PySem.W.Frag) (x : Str) (st : Stmt) (f : Addr) (fd : FuncData) : Prop :=
  FunD K x x (defArgs st) (defBody st) (defScope st) [] [] f fd

/-- a def of the top that is called by its name -/
structure Dn (P : Program) (w : World) (K : PySem.W.Frag) (mg : Str → Option Value) (base : Heap)
    (CX : CXT) (k : Nat) (x : Str) (ps : List Str) (sp : Sp) : Prop where
  ex : ∃ fd, FnOk P w K mg base CX k (He.ga K x) fd ps sp ∧ Binds K fd ps []
  gm : mg x = some (.ref (He.ga K x))
  kp : PySem.W.keepIn K (.ref (He.ga K x)) = true

def tFn (sp : Sp) (E : XK) (t : TA) : TE := fun σ H Q => t σ H fun vs H1 => sp vs H1 Q E

section
variable {X : Cx}
theorem pe_fn {CX : CXT} {k : Nat} {x : Str} {ps : List Str} {sp : Sp} {E : XK} {e : Expr} {es : List Expr}
    {t : TA} {p pos : Pos} (D : Dn X.prog X.w X.K X.mg X.base CX k x ps sp) (hr : Room k X.A)
    (hx : Passes CX X E) (ha : PA X (e :: es) t) (hg : Gl X x := by rfl)
    (hdb : (x == ("__debug__" : Str)) = false := by decide)
    (he : starEach (e :: es) X.env = (false, eval e X.env) :: starEach es X.env := by rfl)
    (hpl : (backTo pos (starEach es X.env)).any (·.1) = false := by rfl) :
    PE X (.Call (.Name x p) (e :: es) [] pos) (tFn sp E t) := by
  obtain ⟨fd, F, b⟩ := D.ex
  refine ⟨fun pins s σ H Q I h => ?_⟩
  have q := pe_call (CX := CX) (E := E) (dvs := []) (p := p) (pos := pos) F hr hg D.gm D.kp b .nil hx ha hdb he hpl
  refine q.run pins s σ H Q I ?_
  have e2 : (fun vs H1 => sp (vs ++ []) H1 Q E) = fun vs H1 => sp vs H1 Q E := by
    funext vs H1
    rw [List.append_nil]
  show t σ H (fun vs H1 => sp (vs ++ []) H1 Q E)
  rw [e2]
  exact h
end
end Wp
set_option Elab.async false
set_option linter.all false
set_option maxRecDepth 100000
set_option maxHeartbeats 4000000
/-! Readings, step by step: one lemma for each head. -/
namespace Wp
open PySem PySem.Spec PyProof.Rows L2

theorem sz5 {n : Nat} (h : n ≤ 1000000) : n ≤ sizeLine := Nat.le_trans h (by decide)
theorem sz6 {n : Nat} (h : n < 1000000) : n < sizeLine := Nat.lt_of_lt_of_le h (by decide)
/-- all but the object at a is as it was -/
def But (a : Addr) (H H' : Hp) : Prop := ∀ b o, H b = some o → b ≠ a → H' b = some o
theorem Same.new {H : Hp} {p : Addr} {o : HO} (h : H p = none) : Same H (upd H p o) := fun b u e => by
  rw [upd_ne (ne_of_none e h)]
  exact e
theorem But.upd {H : Hp} {p : Addr} {o : HO} : But p H (upd H p o) := fun b u e n => by
  rw [upd_ne n]
  exact e
theorem But.same {H H1 H2 : Hp} {p : Addr} (a : But p H H1) (b : Same H1 H2) : But p H H2 := fun c o e n => b c o (a c o e n)
theorem Same.but {H H1 H2 : Hp} {p : Addr} (a : Same H H1) (b : But p H1 H2) : But p H H2 := fun c o e n => b c o (a c o e) n
/-- what is new may change -/
theorem Same.mut {H H1 H2 : Hp} {p : Addr} (a : Same H H1) (b : But p H1 H2) (n : H p = none) : Same H H2 := fun c o e => b c o (a c o e) (ne_of_none e n)

section
variable {t u : TS} {D : Ends} {σ : L2.St} {H : Hp} {te ta tb tc : TE} {ca cb : TT} {tr : TA} {g : TG} {gs : TGs} {Q : VK} {QB : Bool → Hp → Prop} {QA : List V → Hp → Prop} {QS : L2.St → Hp → Prop} {v x y : V} {i j : Int} {n : Nat} {b : Bool} {K : PySem.W.Frag}
/-! statements -/
theorem r_seq (h : t { D with nx := u D } σ H) : tSeq t u D σ H := h
theorem r_next (h : D.nx σ H) : tNext D σ H := h
theorem r_if {c : TT} (h : c σ H fun b H1 => if b = true then t D σ H1 else u D σ H1) : tIfS c t u D σ H := h
theorem r_asg (h : te σ H fun x H1 => g x σ H1 D.nx) : tAsg te g D σ H := h
theorem r_gname (h : QS (σ.set n (some v)) H) : gName n v σ H QS := h
theorem r_ret (h : te σ H D.rt) : tRet te D σ H := h
theorem r_retN (h : D.rt .non H) : tRetN D σ H := h
theorem r_drop (h : te σ H fun _ H1 => D.nx σ H1) : tDrop te D σ H := h
def kPar (m n : Nat) (D : Ends) (σ : L2.St) : List V → Hp → Prop := fun vs H1 => ∃ v w, vs = [v, w] ∧ D.nx ((σ.set m (some v)).set n (some w)) H1
theorem r_par {m : Nat} (h : tr σ H (kPar m n D σ)) : tPar m n tr D σ H := h
theorem r_kPar {m : Nat} (h : D.nx ((σ.set m (some x)).set n (some y)) H) : kPar m n D σ [x, y] H := ⟨x, y, rfl, h⟩
theorem r_gtup {a : Addr} {xs : List V} (h : SqT K H a xs) (l : xs.length = n) (q : gs xs σ H QS) : gTup K n gs (.ref a) σ H QS := ⟨a, xs, rfl, h, l, q⟩
theorem r_gnil (q : QS σ H) : gNil [] σ H QS := ⟨rfl, q⟩
theorem r_gcons {r : List V} (q : g v σ H fun σ' H' => gs r σ' H' QS) : gCons g gs (v :: r) σ H QS := ⟨v, r, rfl, q⟩
/-! names, constants, arguments -/
theorem r_var (h : σ[n]? = some (some v)) (q : Q v H) : tVar n σ H Q := ⟨v, h, q⟩
theorem r_c (q : Q v H) : tC v σ H Q := q
theorem r_nil (q : QA [] H) : tNil σ H QA := q
theorem r_cons (q : te σ H fun x H1 => tr σ H1 fun xs H2 => QA (x :: xs) H2) : tCons te tr σ H QA := q
theorem r_fn {sp : Sp} {E : XK} (q : tr σ H fun vs H1 => sp vs H1 Q E) : tFn sp E tr σ H Q := q
theorem r_cb {r : List V → Hp → VK → Prop} (q : tr σ H fun vs H1 => r vs H1 Q) : tCB r tr σ H Q := q
/-! operators -/
theorem r_op {r : R2} (q : ta σ H fun x H1 => tb σ H1 fun y H2 => r x y H2 Q) : tOp r ta tb σ H Q := q
theorem r_un {r : V → Hp → VK → Prop} (q : ta σ H fun x H1 => r x H1 Q) : tUn r ta σ H Q := q
theorem r_I0 {f : Int → Int → V} (q : Q (f i j) H) : rI0 f (.int i) (.int j) H Q := ⟨i, j, rfl, rfl, q⟩
theorem r_I {C : Int → Int → Prop} {f : Int → Int → V} (c : C i j) (q : Q (f i j) H) : rI C f (.int i) (.int j) H Q := ⟨i, j, rfl, rfl, c, q⟩
theorem r_U {f : Int → V} (q : Q (f i) H) : rU f (.int i) H Q := ⟨i, rfl, q⟩
theorem decI {i j : Int} : decide (V.int i = V.int j) = decide (i = j) := by
  by_cases h : i = j
  · rw [h]; simp
  · rw [decide_eq_false h, decide_eq_false fun z => h (V.int.inj z)]
theorem decS {i j : Str} : decide (V.str i = V.str j) = decide (i = j) := by
  by_cases h : i = j
  · rw [h]; simp
  · rw [decide_eq_false h, decide_eq_false fun z => h (V.str.inj z)]
theorem decB {i j : Bool} : decide (V.bl i = V.bl j) = decide (i = j) := by
  by_cases h : i = j
  · rw [h]; simp
  · rw [decide_eq_false h, decide_eq_false fun z => h (V.bl.inj z)]
theorem r_eqI (q : Q (.bl (decide (i = j))) H) : rEq (.int i) (.int j) H Q := ⟨rfl, by rw [decI]; exact q⟩
theorem r_neI (q : Q (.bl (!decide (i = j))) H) : rNe (.int i) (.int j) H Q := ⟨rfl, by rw [decI]; exact q⟩
theorem r_eqS {a c : Str} (q : Q (.bl (decide (a = c))) H) : rEq (.str a) (.str c) H Q := ⟨rfl, by rw [decS]; exact q⟩
theorem r_neS {a c : Str} (q : Q (.bl (!decide (a = c))) H) : rNe (.str a) (.str c) H Q := ⟨rfl, by rw [decS]; exact q⟩
theorem r_eqB {a c : Bool} (q : Q (.bl (decide (a = c))) H) : rEq (.bl a) (.bl c) H Q := ⟨rfl, by rw [decB]; exact q⟩
theorem r_neB {a c : Bool} (q : Q (.bl (!decide (a = c))) H) : rNe (.bl a) (.bl c) H Q := ⟨rfl, by rw [decB]; exact q⟩
def kChain (r' : R2) (tc : TE) (σ : L2.St) (y : V) (Q : VK) : VK := fun z H3 => ∃ k, z = .bl k ∧ (if k = true then tc σ H3 fun w' H4 => r' y w' H4 Q else Q (.bl false) H3)
theorem r_chain {r r' : R2} (q : ta σ H fun x H1 => tb σ H1 fun y H2 => r x y H2 (kChain r' tc σ y Q)) : tChain r r' ta tb tc σ H Q := q
theorem r_kChain {r' : R2} (q1 : b = true → tc σ H fun w' H4 => r' y w' H4 Q) (q2 : b = false → Q (.bl false) H) : kChain r' tc σ y Q (.bl b) H := by
  refine ⟨b, rfl, ?_⟩
  cases b with
  | true => exact iteT (q1 rfl)
  | false => exact iteF (q2 rfl)
/-! tests -/
def kTest (Q : Bool → Hp → Prop) : VK := fun x H' => ∃ k, x = .bl k ∧ Q k H'
theorem r_test (q : te σ H (kTest QB)) : tTest te σ H QB := q
theorem r_tB (q : te σ H (kTest QB)) : tB te σ H QB := q
theorem r_kTest (q : QB b H) : kTest QB (.bl b) H := ⟨b, rfl, q⟩
theorem r_not (q : ca σ H fun c H1 => QB (!c) H1) : tNot ca σ H QB := q
theorem r_and (q : ca σ H fun c H1 => if c = true then cb σ H1 QB else QB false H1) : tAnd ca cb σ H QB := q
theorem r_or (q : ca σ H fun c H1 => if c = true then QB true H1 else cb σ H1 QB) : tOr ca cb σ H QB := q
theorem r_tif (q : ca σ H fun c H1 => if c = true then ta σ H1 Q else tb σ H1 Q) : tIf ca ta tb σ H Q := q
def kAndV (tb : TE) (σ : L2.St) (Q : VK) : VK := fun x H1 => ∃ c, x = .bl c ∧ if c = true then tb σ H1 Q else Q (.bl false) H1
def kOrV (tb : TE) (σ : L2.St) (Q : VK) : VK := fun x H1 => ∃ c, x = .bl c ∧ if c = true then Q (.bl true) H1 else tb σ H1 Q
def kNotV (Q : VK) : VK := fun x H1 => ∃ c, x = .bl c ∧ Q (.bl (!c)) H1
theorem r_andV (q : ta σ H (kAndV tb σ Q)) : tAndV ta tb σ H Q := q
theorem r_orV (q : ta σ H (kOrV tb σ Q)) : tOrV ta tb σ H Q := q
theorem r_notV (q : ta σ H (kNotV Q)) : tNotV ta σ H Q := q
theorem r_kAndV (q : if b = true then tb σ H Q else Q (.bl false) H) : kAndV tb σ Q (.bl b) H := ⟨b, rfl, q⟩
theorem r_kOrV (q : if b = true then Q (.bl true) H else tb σ H Q) : kOrV tb σ Q (.bl b) H := ⟨b, rfl, q⟩
theorem r_kNotV (q : Q (.bl (!b)) H) : kNotV Q (.bl b) H := ⟨b, rfl, q⟩
end
/-! ways -/
section
variable {A B : Prop} {p : Prop} {ip : Decidable p} {b : Bool}
theorem w_T (h : A) : if true = true then A else B := iteT h
theorem w_F (h : B) : if false = true then A else B := iteF h
theorem w_NT (h : B) : if (!true) = true then A else B := iteF h
theorem w_NF (h : A) : if (!false) = true then A else B := iteT h
theorem w_dec (h1 : p → A) (h2 : ¬ p → B) : if decide p = true then A else B := by
  by_cases h : p
  · rw [decide_eq_true h]; exact iteT (h1 h)
  · rw [decide_eq_false h]; exact iteF (h2 h)
theorem w_ndec (h1 : ¬ p → A) (h2 : p → B) : if (!decide p) = true then A else B := by
  by_cases h : p
  · rw [decide_eq_true h]; exact iteF (h2 h)
  · rw [decide_eq_false h]; exact iteT (h1 h)
theorem w_b (h1 : b = true → A) (h2 : b = false → B) : if b = true then A else B := by
  cases b with
  | true => exact iteT (h1 rfl)
  | false => exact iteF (h2 rfl)
theorem w_nb (h1 : b = false → A) (h2 : b = true → B) : if (!b) = true then A else B := by
  cases b with
  | true => exact iteF (h2 rfl)
  | false => exact iteT (h1 rfl)
theorem w_yes (h : b = true) (q : A) : if b = true then A else B := by rw [h]; exact iteT q
theorem w_no (h : b = false) (q : B) : if b = true then A else B := by rw [h]; exact iteF q
end
/-! objects -/
section
variable {t u : TS} {D : Ends} {σ : L2.St} {H : Hp} {te ta tb tc td ty tv : TE} {tr : TA} {Q : VK} {QA : List V → Hp → Prop} {v x y : V} {i j : Int} {n : Nat} {b : Bool} {K : PySem.W.Frag} {a C dx p : Addr} {fs : List (Str × V)} {f : Str} {xs ys : List V} {kvs : List (Key × V)} {k : Key}
theorem r_pow5 (q : Q (.int 100000) H) : rI CPow (fun i j => .int (i ^ j.toNat)) (.int 10) (.int 5) H Q := ⟨10, 5, rfl, rfl, ⟨by decide, by decide, by decide⟩, q⟩
theorem r_pow6 (q : Q (.int 1000000) H) : rI CPow (fun i j => .int (i ^ j.toNat)) (.int 10) (.int 6) H Q := ⟨10, 6, rfl, rfl, ⟨by decide, by decide, by decide⟩, q⟩
theorem r_pow7 (q : Q (.int 10000000) H) : rI CPow (fun i j => .int (i ^ j.toNat)) (.int 10) (.int 7) H Q := ⟨10, 7, rfl, rfl, ⟨by decide, by decide, by decide⟩, q⟩
theorem r_pow9 (q : Q (.int 1000000000) H) : rI CPow (fun i j => .int (i ^ j.toNat)) (.int 10) (.int 9) H Q := ⟨10, 9, rfl, rfl, ⟨by decide, by decide, by decide⟩, q⟩
theorem r_pow18 (q : Q (.int 1000000000000000000) H) : rI CPow (fun i j => .int (i ^ j.toNat)) (.int 10) (.int 18) H Q := ⟨10, 18, rfl, rfl, ⟨by decide, by decide, by decide⟩, q⟩
theorem r_pow20 (q : Q (.int 100000000000000000000) H) : rI CPow (fun i j => .int (i ^ j.toNat)) (.int 10) (.int 20) H Q := ⟨10, 20, rfl, rfl, ⟨by decide, by decide, by decide⟩, q⟩
theorem r_pow30 (q : Q (.int 1000000000000000000000000000000) H) : rI CPow (fun i j => .int (i ^ j.toNat)) (.int 10) (.int 30) H Q := ⟨10, 30, rfl, rfl, ⟨by decide, by decide, by decide⟩, q⟩
theorem r_isN_non (q : Q (.bl true) H) : rIsN .non .non H Q := ⟨rfl, q⟩
theorem r_isN_ref (q : Q (.bl false) H) : rIsN (.ref a) .non H Q := ⟨rfl, q⟩
theorem r_isN_int (q : Q (.bl false) H) : rIsN (.int i) .non H Q := ⟨rfl, q⟩
theorem r_isN_str {z : Str} (q : Q (.bl false) H) : rIsN (.str z) .non H Q := ⟨rfl, q⟩
theorem r_isN_bl (q : Q (.bl false) H) : rIsN (.bl b) .non H Q := ⟨rfl, q⟩
theorem r_notN_non (q : Q (.bl false) H) : rNotN .non .non H Q := ⟨rfl, q⟩
theorem r_notN_ref (q : Q (.bl true) H) : rNotN (.ref a) .non H Q := ⟨rfl, q⟩
theorem r_notN_int (q : Q (.bl true) H) : rNotN (.int i) .non H Q := ⟨rfl, q⟩
theorem r_notN_str {z : Str} (q : Q (.bl true) H) : rNotN (.str z) .non H Q := ⟨rfl, q⟩
theorem r_notN_bl (q : Q (.bl true) H) : rNotN (.bl b) .non H Q := ⟨rfl, q⟩
def kTup (Q : VK) : List V → Hp → Prop := fun xs H1 => xs.length ≤ sizeLine ∧ ∀ p, H1 p = none → Q (.ref p) (upd H1 p (.tup xs))
def kLst (Q : VK) : List V → Hp → Prop := fun xs H1 => xs.length ≤ sizeLine ∧ ∀ p, H1 p = none → Q (.ref p) (upd H1 p (.lst xs))
theorem r_tup (q : tr σ H (kTup Q)) : tTup tr σ H Q := q
theorem r_lst (q : tr σ H (kLst Q)) : tLst tr σ H Q := q
theorem r_kTup (q : ∀ p H', H p = none → Same H H' → H' p = some (.tup xs) → Q (.ref p) H') (hz : xs.length ≤ 1000000 := by (simp only [List.length_cons, List.length_nil]; decide)) : kTup Q xs H :=
  ⟨sz5 hz, fun p hp => q p _ hp (Same.new hp) upd_same⟩
theorem r_kLst (q : ∀ p H', H p = none → Same H H' → H' p = some (.lst xs) → Q (.ref p) H') (hz : xs.length ≤ 1000000 := by (simp only [List.length_cons, List.length_nil]; decide)) : kLst Q xs H :=
  ⟨sz5 hz, fun p hp => q p _ hp (Same.new hp) upd_same⟩
def kFld (K : PySem.W.Frag) (f : Str) (Q : VK) : VK := fun x H1 => ∃ a C dx fs v, x = .ref a ∧ H1 a = some (.ins C dx fs) ∧ Cls K C ∧ NoAttr K C f ∧ fs.lookup f = some v ∧ Q v H1
theorem r_fld (q : ta σ H (kFld K f Q)) : tFld K ta f σ H Q := q
theorem r_kFld (h1 : H a = some (.ins C dx fs)) (h2 : Cls K C) (h3 : NoAttr K C f) (h4 : fs.lookup f = some v) (q : Q v H) : kFld K f Q (.ref a) H := ⟨a, C, dx, fs, v, rfl, h1, h2, h3, h4, q⟩
def kSFld (K : PySem.W.Frag) (f : Str) (D : Ends) (σ : L2.St) (y : V) : VK := fun x H2 => ∃ a C dx fs, x = .ref a ∧ H2 a = some (.ins C dx fs) ∧ Cls K C ∧ NoAttr K C f ∧ fs.length < 1000 ∧ D.nx σ (upd H2 a (.ins C dx (putF f y fs)))
theorem r_sfld (q : tv σ H fun y H1 => ta σ H1 (kSFld K f D σ y)) : sFld K ta tv f D σ H := q
theorem r_kSFld (h1 : H a = some (.ins C dx fs)) (h2 : Cls K C) (h3 : NoAttr K C f) (hl : fs.length < 1000) (q : ∀ H', But a H H' → H' a = some (.ins C dx (putF f y fs)) → D.nx σ H') : kSFld K f D σ y (.ref a) H :=
  ⟨a, C, dx, fs, rfl, h1, h2, h3, hl, q _ But.upd upd_same⟩
def kDGet (Q : VK) (x : V) : VK := fun y H2 => ∃ a v, x = .ref a ∧ DGet H2 a y (some v) ∧ Q v H2
theorem r_dget (q : td σ H fun x H1 => ty σ H1 (kDGet Q x)) : tDGet td ty σ H Q := q
theorem r_kDGetS {z : Str} (h1 : H a = some (.dK kvs)) (h2 : valV kvs (Sum.inr z) = some v) (q : Q v H) : kDGet Q (.ref a) (.str z) H :=
  ⟨a, v, rfl, .inl ⟨kvs, Sum.inr z, .inl h1, rfl, h2.symm⟩, q⟩
theorem r_kDGetI {z : Int} (h1 : H a = some (.dK kvs)) (h2 : valV kvs (Sum.inl z) = some v) (q : Q v H) : kDGet Q (.ref a) (.int z) H :=
  ⟨a, v, rfl, .inl ⟨kvs, Sum.inl z, .inl h1, rfl, h2.symm⟩, q⟩
def kDPut (D : Ends) (σ : L2.St) (v x : V) : VK := fun y H3 => ∃ a H4, x = .ref a ∧ DPut H3 a y v H4 ∧ D.nx σ H4
theorem r_dput (q : tv σ H fun v H1 => td σ H1 fun x H2 => ty σ H2 (kDPut D σ v x)) : sDPut td ty tv D σ H := q
theorem r_kDPutS {z : Str} (h1 : H a = some (.dK kvs)) (hz : kvs.length < 1000000) (q : ∀ H', But a H H' → H' a = some (.dK (putK kvs (Sum.inr z) v)) → D.nx σ H') : kDPut D σ v (.ref a) (.str z) H :=
  ⟨a, _, rfl, .inl ⟨kvs, Sum.inr z, h1, rfl, sz6 hz, rfl⟩, q _ But.upd upd_same⟩
theorem r_ixL (h : SqL K H p xs) (e : atI xs i = some v) (q : Q v H) : rIxL K (.ref p) (.int i) H Q := ⟨p, xs, i, v, rfl, rfl, h, e, q⟩
theorem r_ixT (h : SqT K H p xs) (e : atI xs i = some v) (q : Q v H) : rIxT K (.ref p) (.int i) H Q := ⟨p, xs, i, v, rfl, rfl, h, e, q⟩
theorem r_ixSL (h : SqL K H p xs) (e : atI xs i = some v) (q : Q v H) : rIx K (.ref p) (.int i) H Q := .inl (r_ixL h e q)
theorem r_ixST (h : SqT K H p xs) (e : atI xs i = some v) (q : Q v H) : rIx K (.ref p) (.int i) H Q := .inr (.inl (r_ixT h e q))
def kBM (K : PySem.W.Frag) (T : String) (r : V → List V → Hp → VK → Prop) (tr : TA) (σ : L2.St) (Q : VK) : VK := fun x H1 => tyV K T x H1 ∧ tr σ H1 fun xs H2 => r x xs H2 Q
theorem r_bm {T : String} {r : V → List V → Hp → VK → Prop} (q : ta σ H (kBM K T r tr σ Q)) : tBM K T r ta tr σ H Q := q
theorem r_kBML {r : V → List V → Hp → VK → Prop} (h : H p = some (.lst xs)) (q : tr σ H fun ys H2 => r (.ref p) ys H2 Q) : kBM K "list" r tr σ Q (.ref p) H := ⟨.inl ⟨rfl, xs, SqL.of h⟩, q⟩
theorem r_append (h : H p = some (.lst xs)) (hz : xs.length < 1000000) (q : ∀ H', But p H H' → H' p = some (.lst (xs ++ [y])) → Q .non H') : rAppend (.ref p) [y] H Q :=
  ⟨p, xs, y, rfl, rfl, h, sz6 hz, q _ But.upd upd_same⟩
/-! built-in calls -/
def rInt1 : List V → Hp → VK → Prop := fun xs H Q => (∃ i, xs = [.int i] ∧ Q (.int i) H) ∨ ∃ k, xs = [.bl k] ∧ Q (.int (if k then 1 else 0)) H
theorem r_int1 (q : Q (.int i) H) : rInt1 [.int i] H Q := .inl ⟨i, rfl, q⟩
theorem r_int1b (q : Q (.int (if b then 1 else 0)) H) : rInt1 [.bl b] H Q := .inr ⟨b, rfl, q⟩
def rLen (K : PySem.W.Frag) : List V → Hp → VK → Prop := fun xs H Q => ∃ x n, xs = [x] ∧ LenV K x H n ∧ Q (.int n) H
theorem r_lenL (h : SqL K H p xs) (q : Q (.int (xs.length : Nat)) H) : rLen K [.ref p] H Q := ⟨_, _, rfl, .inl ⟨xs, h, rfl⟩, q⟩
theorem r_lenT (h : SqT K H p xs) (q : Q (.int (xs.length : Nat)) H) : rLen K [.ref p] H Q := ⟨_, _, rfl, .inr ⟨xs, h, rfl⟩, q⟩
def rMin2 : List V → Hp → VK → Prop := fun xs H Q => ∃ i j, xs = [.int i, .int j] ∧ Q (.int (if j < i then j else i)) H
def rMax2 : List V → Hp → VK → Prop := fun xs H Q => ∃ i j, xs = [.int i, .int j] ∧ Q (.int (if j > i then j else i)) H
theorem min_of (i j : Int) : (if j < i then j else i) = min i j := by
  split <;> omega
theorem max_of (i j : Int) : (if j > i then j else i) = max i j := by
  split <;> omega
theorem r_min2 (q : Q (.int (min i j)) H) : rMin2 [.int i, .int j] H Q := ⟨i, j, rfl, by rw [min_of]; exact q⟩
theorem r_max2 (q : Q (.int (max i j)) H) : rMax2 [.int i, .int j] H Q := ⟨i, j, rfl, by rw [max_of]; exact q⟩
def rListOf (K : PySem.W.Frag) : List V → Hp → VK → Prop := fun xs H Q => ∃ p ys, xs = [.ref p] ∧ (SqL K H p ys ∨ SqT K H p ys) ∧ ∀ l, H l = none → Q (.ref l) (upd H l (.lst ys))
theorem r_listL (h : SqL K H p xs) (q : ∀ l H', H l = none → Same H H' → H' l = some (.lst xs) → Q (.ref l) H') : rListOf K [.ref p] H Q := ⟨p, xs, rfl, .inl h, fun l hl => q l _ hl (Same.new hl) upd_same⟩
theorem r_listT (h : SqT K H p xs) (q : ∀ l H', H l = none → Same H H' → H' l = some (.lst xs) → Q (.ref l) H') : rListOf K [.ref p] H Q := ⟨p, xs, rfl, .inr h, fun l hl => q l _ hl (Same.new hl) upd_same⟩
theorem r_isi {c : V} {t u : Value} (h1 : ClsV c u) (h2 : TyX K H x t) (h3 : PySem.W.kitOne K t u = some b) (q : Q (.bl b) H) : rIsi K [x, c] H Q := ⟨x, c, t, u, b, rfl, h1, h2, h3, q⟩
theorem r_sum {zs : List Int} (h : SqL K H p (zs.map V.int)) (q : Q (.int zs.sum) H) : rSum K [.ref p] H Q := ⟨p, zs, rfl, h, q⟩
end
section
variable {X : Cx}
theorem c_int1 : CallR X (.type "int") rInt1 := call_int1
theorem c_len : CallR X (.builtin "len") (rLen X.K) := call_len
theorem c_min2 (h : X.calm = true) : CallR X (.builtin "min") rMin2 := call_min2 h
theorem c_max2 (h : X.calm = true) : CallR X (.builtin "max") rMax2 := call_max2 h
theorem c_list : CallR X (.type "list") (rListOf X.K) := call_list_of
end
end Wp
set_option Elab.async false
set_option linter.all false
set_option maxRecDepth 100000
set_option maxHeartbeats 4000000
/-! Readings of loops and comprehensions. -/
namespace Wp
open PySem PySem.Spec PyProof.Rows L2
section
variable {t u tw : TS} {D : Ends} {σ : L2.St} {H : Hp} {te ta tb tl : TE} {c tt : TT} {tr : TA} {g : TG} {Q : VK} {QB : Bool → Hp → Prop} {v x y : V} {n : Nat} {b : Bool} {K : PySem.W.Frag} {a : Addr} {xs : List V} {vs : List Nat}
theorem r_cut (Mid : L2.St → Hp → Prop) (h1 : t { D with nx := Mid } σ H) (h2 : ∀ σ' H', Mid σ' H' → u D σ' H') : Evl.tCut t u D σ H := ⟨Mid, h1, h2⟩
/-! for over a list -/
def kForL (K : PySem.W.Frag) (g : TG) (tw : TS) (D : Ends) (σ : L2.St) : VK := fun x H1 => ∃ a, x = .ref a ∧ (∃ xs, SqL K H1 a xs) ∧
  ∃ W : Nat → Nat → L2.St → Hp → Prop, (∃ m, W 0 m σ H1) ∧ ∀ i m σ H, W i m σ H →
  ((Itl K a).stop i H ∧ D.nx σ H) ∨ ((Itl K a).go i H ∧ ∃ N : L2.St → Hp → Prop, (∀ σ' H', N σ' H' → ∃ m', m' < m ∧ W (i + 1) m' σ' H') ∧
    ∀ x H', (Itl K a).yld i H x H' → g x σ H' fun σ2 H2 => tw { D with nx := N, ct := N, bk := D.nx } σ2 H2)
theorem r_forL (h : tl σ H (kForL K g tw D σ)) : tFor (iList K tl) g tw D σ H := h
theorem r_kForL (Pv : Nat → L2.St → Hp → Prop) (hl : SqL K H a xs) (h0 : Pv 0 σ H) (hk : ∀ i σ' H', Pv i σ' H' → SqL K H' a xs)
    (hs : ∀ i x σ' H', xs[i]? = some x → Pv i σ' H' → g x σ' H' fun σ2 H2 => tw { D with nx := Pv (i + 1), ct := Pv (i + 1), bk := D.nx } σ2 H2)
    (hd : ∀ σ' H', Pv xs.length σ' H' → D.nx σ' H') : kForL K g tw D σ (.ref a) H :=
  ⟨a, rfl, ⟨xs, hl⟩, for_list Pv h0 (fun i σ' H' _ p => hk i σ' H' p) hs hd⟩
def kForT (K : PySem.W.Frag) (g : TG) (tw : TS) (D : Ends) (σ : L2.St) : VK := fun x H1 => ∃ a, x = .ref a ∧ (∃ xs, SqT K H1 a xs) ∧
  ∃ W : Nat → Nat → L2.St → Hp → Prop, (∃ m, W 0 m σ H1) ∧ ∀ i m σ H, W i m σ H →
  ((Itt K a).stop i H ∧ D.nx σ H) ∨ ((Itt K a).go i H ∧ ∃ N : L2.St → Hp → Prop, (∀ σ' H', N σ' H' → ∃ m', m' < m ∧ W (i + 1) m' σ' H') ∧
    ∀ x H', (Itt K a).yld i H x H' → g x σ H' fun σ2 H2 => tw { D with nx := N, ct := N, bk := D.nx } σ2 H2)
theorem r_forT (h : tl σ H (kForT K g tw D σ)) : tFor (iTup K tl) g tw D σ H := h
theorem r_kForT (Pv : Nat → L2.St → Hp → Prop) (hl : SqT K H a xs) (h0 : Pv 0 σ H) (hk : ∀ i σ' H', Pv i σ' H' → SqT K H' a xs)
    (hs : ∀ i x σ' H', xs[i]? = some x → Pv i σ' H' → g x σ' H' fun σ2 H2 => tw { D with nx := Pv (i + 1), ct := Pv (i + 1), bk := D.nx } σ2 H2)
    (hd : ∀ σ' H', Pv xs.length σ' H' → D.nx σ' H') : kForT K g tw D σ (.ref a) H :=
  ⟨a, rfl, ⟨xs, hl⟩, for_tup Pv h0 (fun i σ' H' _ p => hk i σ' H' p) hs hd⟩
/-! for over a range -/
def kForR1 (g : TG) (tw : TS) (D : Ends) (σ : L2.St) : List V → Hp → Prop := fun ws H1 => ∃ j : Int, ws = [.int j] ∧ -(2 ^ 62) ≤ j ∧ j < 2 ^ 62 ∧
  ∃ W : Nat → Nat → L2.St → Hp → Prop, (∃ m, W 0 m σ H1) ∧ ∀ i m σ H, W i m σ H →
  ((Itr 0 j.toNat).stop i H ∧ D.nx σ H) ∨ ((Itr 0 j.toNat).go i H ∧ ∃ N : L2.St → Hp → Prop, (∀ σ' H', N σ' H' → ∃ m', m' < m ∧ W (i + 1) m' σ' H') ∧
    ∀ x H', (Itr 0 j.toNat).yld i H x H' → g x σ H' fun σ2 H2 => tw { D with nx := N, ct := N, bk := D.nx } σ2 H2)
theorem r_forR1 (h : tr σ H (kForR1 g tw D σ)) : tFor (iRng1 tr) g tw D σ H := h
theorem r_kForR1 {j : Int} (Pv : Nat → L2.St → Hp → Prop) (hj : -1000000000 ≤ j ∧ j ≤ 1000000000) (h0 : Pv 0 σ H)
    (hs : ∀ (i : Nat) σ' H', (i : Int) < j → Pv i σ' H' → g (.int (i : Int)) σ' H' fun σ2 H2 => tw { D with nx := Pv (i + 1), ct := Pv (i + 1), bk := D.nx } σ2 H2)
    (hd : ∀ σ' H', Pv j.toNat σ' H' → D.nx σ' H') : kForR1 g tw D σ [.int j] H :=
  ⟨j, rfl, by omega, by omega, for_range Pv h0 (fun i σ' H' hi p => by
    have e : (0 : Int) + (i : Int) = (i : Int) := Int.zero_add _
    rw [e]
    exact hs i σ' H' (by omega) p) hd⟩
def kForR2 (g : TG) (tw : TS) (D : Ends) (σ : L2.St) : List V → Hp → Prop := fun ws H1 => ∃ i0 j : Int, ws = [.int i0, .int j] ∧ (-(2 ^ 62) ≤ i0 ∧ i0 < 2 ^ 62 ∧ -(2 ^ 62) ≤ j ∧ j < 2 ^ 62) ∧
  ∃ W : Nat → Nat → L2.St → Hp → Prop, (∃ m, W 0 m σ H1) ∧ ∀ i m σ H, W i m σ H →
  ((Itr i0 (j - i0).toNat).stop i H ∧ D.nx σ H) ∨ ((Itr i0 (j - i0).toNat).go i H ∧ ∃ N : L2.St → Hp → Prop, (∀ σ' H', N σ' H' → ∃ m', m' < m ∧ W (i + 1) m' σ' H') ∧
    ∀ x H', (Itr i0 (j - i0).toNat).yld i H x H' → g x σ H' fun σ2 H2 => tw { D with nx := N, ct := N, bk := D.nx } σ2 H2)
theorem r_forR2 (h : tr σ H (kForR2 g tw D σ)) : tFor (iRng2 tr) g tw D σ H := h
theorem r_kForR2 {lo j : Int} (Pv : Nat → L2.St → Hp → Prop) (hj : -1000000000 ≤ lo ∧ lo ≤ 1000000000 ∧ -1000000000 ≤ j ∧ j ≤ 1000000000) (h0 : Pv 0 σ H)
    (hs : ∀ (i : Nat) σ' H', lo + (i : Int) < j → Pv i σ' H' → g (.int (lo + (i : Int))) σ' H' fun σ2 H2 => tw { D with nx := Pv (i + 1), ct := Pv (i + 1), bk := D.nx } σ2 H2)
    (hd : ∀ σ' H', Pv (j - lo).toNat σ' H' → D.nx σ' H') : kForR2 g tw D σ [.int lo, .int j] H :=
  ⟨lo, j, rfl, ⟨by omega, by omega, by omega, by omega⟩, for_range Pv h0 (fun i σ' H' hi p => hs i σ' H' (by omega) p) hd⟩
/-! while -/
def kWh (W : Nat → L2.St → Hp → Prop) (tw : TS) (D : Ends) (σ : L2.St) (m : Nat) : Bool → Hp → Prop := fun b H1 => if b = true then
  ∃ N : L2.St → Hp → Prop, (∀ σ' H', N σ' H' → ∃ m', m' < m ∧ W m' σ' H') ∧ tw { D with nx := N, ct := N, bk := D.nx } σ H1 else D.nx σ H1
def nWh (W : Nat → L2.St → Hp → Prop) (m : Nat) : L2.St → Hp → Prop := fun σ' H' => ∃ m', m' < m ∧ W m' σ' H'
theorem r_while (W : Nat → L2.St → Hp → Prop) (m : Nat) (h0 : W m σ H) (hs : ∀ m σ' H', W m σ' H' → c σ' H' (kWh W tw D σ' m)) : tWhile c tw D σ H := ⟨W, ⟨m, h0⟩, hs⟩
theorem r_kWh {W : Nat → L2.St → Hp → Prop} {m : Nat} (h1 : b = true → tw { D with nx := nWh W m, ct := nWh W m, bk := D.nx } σ H) (h2 : b = false → D.nx σ H) : kWh W tw D σ m b H := by
  unfold kWh
  cases b with
  | true => exact iteT ⟨nWh W m, fun _ _ z => z, h1 rfl⟩
  | false => exact iteF (h2 rfl)
/-! list comprehensions -/
def kLcE (Da : Addr) (Pv : Addr → Nat → Hp → Prop) (i : Nat) : VK := fun y H4 => ∃ acc, H4 Da = some (.lst acc) ∧ acc.length < sizeLine ∧ Pv Da (i + 1) (upd H4 Da (.lst (acc ++ [y])))
def kLcT (te : TE) (σ2 : L2.St) (Da : Addr) (Pv : Addr → Nat → Hp → Prop) (i : Nat) : Bool → Hp → Prop := fun b H3 => if b = true then te σ2 H3 (kLcE Da Pv i) else Pv Da (i + 1) H3
def kLcG (tt : TT) (te : TE) (vs : List Nat) (σ : L2.St) (Da : Addr) (Pv : Addr → Nat → Hp → Prop) (i : Nat) : L2.St → Hp → Prop := fun σ2 H2 => wipe σ2 vs = wipe σ vs ∧ tt σ2 H2 (kLcT te σ2 Da Pv i)
theorem r_yes (q : QB true H) : tYes σ H QB := q
section
variable {Da : Addr} {Pv : Addr → Nat → Hp → Prop} {i : Nat} {σ2 : L2.St} {acc : List V}
theorem r_kLcG (h : wipe σ2 vs = wipe σ vs) (q : tt σ2 H (kLcT te σ2 Da Pv i)) : kLcG tt te vs σ Da Pv i σ2 H := ⟨h, q⟩
theorem r_kLcT (q : if b = true then te σ2 H (kLcE Da Pv i) else Pv Da (i + 1) H) : kLcT te σ2 Da Pv i b H := q
theorem r_kLcE (h : H Da = some (.lst acc)) (hz : acc.length < 1000000) (q : ∀ H', But Da H H' → H' Da = some (.lst (acc ++ [y])) → Pv Da (i + 1) H') : kLcE Da Pv i y H :=
  ⟨acc, h, sz6 hz, q _ But.upd upd_same⟩
end
def kLcL (K : PySem.W.Frag) (g : TG) (tt : TT) (te : TE) (vs : List Nat) (σ : L2.St) (Q : VK) : VK := fun x H1 => ∃ a, x = .ref a ∧ (∃ xs, SqL K H1 a xs) ∧ ∀ Da, H1 Da = none → ∃ W : Nat → Nat → Hp → Prop, (∃ m, W 0 m (upd H1 Da (.lst []))) ∧ ∀ i m H, W i m H →
  ((Itl K a).stop i H ∧ Q (.ref Da) H) ∨ ((Itl K a).go i H ∧ ∃ Nx : Hp → Prop, (∀ H', Nx H' → ∃ m', m' < m ∧ W (i + 1) m' H') ∧ ∀ x H', (Itl K a).yld i H x H' → g x (wipe σ vs) H' fun σ2 H2 => wipe σ2 vs = wipe σ vs ∧ tt σ2 H2 fun b H3 =>
    if b = true then te σ2 H3 fun y H4 => ∃ acc, H4 Da = some (.lst acc) ∧ acc.length < sizeLine ∧ Nx (upd H4 Da (.lst (acc ++ [y]))) else Nx H3)
theorem r_lcL (q : tl σ H (kLcL K g tt te vs σ Q)) : tLc (iList K tl) g tt te vs σ H Q := q
theorem r_kLcL (Pv : Addr → Nat → Hp → Prop) (hl : SqL K H a xs) (h0 : ∀ Da H', H Da = none → Same H H' → H' Da = some (.lst []) → Pv Da 0 H') (hk : ∀ Da i H', Pv Da i H' → SqL K H' a xs)
    (hs : ∀ Da i x H', H Da = none → xs[i]? = some x → Pv Da i H' → g x (wipe σ vs) H' (kLcG tt te vs σ Da Pv i)) (hd : ∀ Da H', H Da = none → Pv Da xs.length H' → Q (.ref Da) H') : kLcL K g tt te vs σ Q (.ref a) H :=
  ⟨a, rfl, ⟨xs, hl⟩, fun Da hD => lc_list (Pv Da) (h0 Da _ hD (Same.new hD) upd_same) (fun i H' _ p => hk Da i H' p) (fun i x H' hx p => hs Da i x H' hD hx p) (fun H' p => hd Da H' hD p)⟩
def kLcR1 (g : TG) (tt : TT) (te : TE) (vs : List Nat) (σ : L2.St) (Q : VK) : List V → Hp → Prop := fun ws H1 => ∃ j : Int, ws = [.int j] ∧ -(2 ^ 62) ≤ j ∧ j < 2 ^ 62 ∧ ∀ Da, H1 Da = none → ∃ W : Nat → Nat → Hp → Prop, (∃ m, W 0 m (upd H1 Da (.lst []))) ∧ ∀ i m H, W i m H →
  ((Itr 0 j.toNat).stop i H ∧ Q (.ref Da) H) ∨ ((Itr 0 j.toNat).go i H ∧ ∃ Nx : Hp → Prop, (∀ H', Nx H' → ∃ m', m' < m ∧ W (i + 1) m' H') ∧ ∀ x H', (Itr 0 j.toNat).yld i H x H' → g x (wipe σ vs) H' fun σ2 H2 => wipe σ2 vs = wipe σ vs ∧ tt σ2 H2 fun b H3 =>
    if b = true then te σ2 H3 fun y H4 => ∃ acc, H4 Da = some (.lst acc) ∧ acc.length < sizeLine ∧ Nx (upd H4 Da (.lst (acc ++ [y]))) else Nx H3)
theorem r_lcR1 (q : tr σ H (kLcR1 g tt te vs σ Q)) : tLc (iRng1 tr) g tt te vs σ H Q := q
theorem r_kLcR1 {j : Int} (Pv : Addr → Nat → Hp → Prop) (hj : -1000000000 ≤ j ∧ j ≤ 1000000000) (h0 : ∀ Da H', H Da = none → Same H H' → H' Da = some (.lst []) → Pv Da 0 H')
    (hs : ∀ Da (i : Nat) H', H Da = none → (i : Int) < j → Pv Da i H' → g (.int (i : Int)) (wipe σ vs) H' (kLcG tt te vs σ Da Pv i)) (hd : ∀ Da H', H Da = none → Pv Da j.toNat H' → Q (.ref Da) H') : kLcR1 g tt te vs σ Q [.int j] H :=
  ⟨j, rfl, by omega, by omega, fun Da hD => lc_range (Pv Da) (h0 Da _ hD (Same.new hD) upd_same) (fun i H' hi p => by
    have e : (0 : Int) + (i : Int) = (i : Int) := Int.zero_add _
    rw [e]
    exact hs Da i H' hD (by omega) p) (fun H' p => hd Da H' hD p)⟩
end
end Wp
set_option Elab.async false
set_option linter.all false
set_option maxRecDepth 100000
set_option maxHeartbeats 4000000
/-! Data: lists of ints, == of data. -/
namespace Wp
open PySem PySem.Spec PyProof.Rows L2
section
variable {K : PySem.W.Frag} {H H' : Hp} {p q : Addr} {Q : VK} {as bs : List Int} {x y : V} {d e : PyData}
theorem dp_ints : ∀ ns : List Int, DpAll K H (ns.map V.int) (ns.map PyData.int)
  | [] => .nil
  | n :: r => .cons (.int n) (dp_ints r)
theorem lay_ints : ∀ ns : List Int, PyData.canLayAll0 (ns.map PyData.int) = true
  | [] => rfl
  | n :: r => by
    show (PyData.canLay0 (.int n) && PyData.canLayAll0 (r.map PyData.int)) = true
    rw [lay_ints r]
    rfl
theorem dep_ints : ∀ ns : List Int, PyData.depthAll (ns.map PyData.int) = 0
  | [] => rfl
  | n :: r => by
    show max (PyData.depth (.int n)) (PyData.depthAll (r.map PyData.int)) = 0
    rw [dep_ints r]
    rfl
theorem shp_ints (ns : List Int) : SeqAt.shaped (.list (ns.map PyData.int)) = true := by
  show (PyData.canLayAll0 (ns.map PyData.int) && decide (PyData.depthAll (ns.map PyData.int) + 1 ≤ 64)) = true
  rw [lay_ints, dep_ints]
  rfl
theorem eqv_ints : ∀ as bs : List Int, PyData.eqvAll (as.map PyData.int) (bs.map PyData.int) = decide (as = bs)
  | [], [] => by simp [PyData.eqvAll]
  | [], _ :: _ => by simp [PyData.eqvAll]
  | _ :: _, [] => by simp [PyData.eqvAll]
  | a :: r, b :: s => by
    show (PyData.eqv (.int a) (.int b) && PyData.eqvAll (r.map PyData.int) (s.map PyData.int)) = _
    rw [eqv_ints r s]
    show ((a == b) && decide (r = s)) = decide (a :: r = b :: s)
    rw [Bool.eq_iff_iff]
    simp
theorem r_neLI (h1 : SqL K H p (as.map V.int)) (h2 : SqL K H q (bs.map V.int)) (k : Q (.bl (!decide (as = bs))) H) : rNeD K (.ref p) (.ref q) H Q := by
  refine ⟨.list (as.map .int), .list (bs.map .int), .lst h1 (dp_ints as), .lst h2 (dp_ints bs), shp_ints as, shp_ints bs, ?_⟩
  show Q (.bl (!PyData.eqvAll (as.map PyData.int) (bs.map PyData.int))) H
  rw [eqv_ints]
  exact k
theorem r_eqLI (h1 : SqL K H p (as.map V.int)) (h2 : SqL K H q (bs.map V.int)) (k : Q (.bl (decide (as = bs))) H) : rEqD K (.ref p) (.ref q) H Q := by
  refine ⟨.list (as.map .int), .list (bs.map .int), .lst h1 (dp_ints as), .lst h2 (dp_ints bs), shp_ints as, shp_ints bs, ?_⟩
  show Q (.bl (PyData.eqvAll (as.map PyData.int) (bs.map PyData.int))) H
  rw [eqv_ints]
  exact k
mutual
theorem Dp.mono (e : Same H H') : ∀ {d : PyData} {v : V}, Dp K H v d → Dp K H' v d
  | _, _, .non => .non
  | _, _, .bl b => .bl b
  | _, _, .int i => .int i
  | _, _, .str x => .str x
  | _, _, .lst h r => .lst (e.seq h) (DpAll.mono e r)
  | _, _, .tup h r => .tup (Evl.ex_t e h) (DpAll.mono e r)
theorem DpAll.mono (e : Same H H') : ∀ {ds : List PyData} {vs : List V}, DpAll K H vs ds → DpAll K H' vs ds
  | _, _, .nil => .nil
  | _, _, .cons a r => .cons (Dp.mono e a) (DpAll.mono e r)
end
theorem r_popAt0 {l : Addr} {z : V} {zs : List V} (h : H l = some (.lst (z :: zs))) (k : ∀ H', But l H H' → H' l = some (.lst zs) → Q z H') : rPopAt (.ref l) [.int 0] H Q :=
  ⟨l, z :: zs, 0, 0, z, rfl, rfl, h, by decide, by decide, by simp [seqIndex?], rfl, k _ But.upd upd_same⟩
theorem at_get {α : Type} {xs : List α} {i : Int} {n : Nat} {v : α} (h0 : i = (n : Int)) (h : xs[n]? = some v) : atI xs i = some v := by
  rw [h0]
  exact atI_nat h
theorem at_last {α : Type} (xs : List α) (z : α) : atI (xs ++ [z]) (-1) = some z := by
  unfold atI ixN
  rw [if_neg (by decide)]
  have h : -(((xs ++ [z]).length : Nat) : Int) ≤ -1 := by
    rw [List.length_append]
    show -(((xs.length + 1 : Nat)) : Int) ≤ -1
    omega
  rw [if_pos h]
  have e : ((-1 : Int) + (((xs ++ [z]).length : Nat) : Int)).toNat = xs.length := by
    rw [List.length_append]
    show ((-1 : Int) + ((xs.length + 1 : Nat) : Int)).toNat = xs.length
    omega
  show ((some ((-1 : Int) + (((xs ++ [z]).length : Nat) : Int)).toNat).bind fun j => (xs ++ [z])[j]?) = some z
  rw [e]
  simp
theorem take_more {α : Type} {xs : List α} {i : Nat} {x : α} (h : xs[i]? = some x) : xs.take (i + 1) = xs.take i ++ [x] := by
  rw [List.take_succ, h]
  rfl
theorem r_eqD_eq (h1 : Dp K H x d) (h2 : Dp K H y d) (hs : SeqAt.shaped d = true) (k : Q (.bl true) H) : rEqD K x y H Q := by
  refine ⟨d, d, h1, h2, hs, hs, ?_⟩
  rw [SeqAt.eqv_refl d (SeqAt.canLay_of_shaped hs)]
  exact k
theorem r_neD_eq (h1 : Dp K H x d) (h2 : Dp K H y d) (hs : SeqAt.shaped d = true) (k : Q (.bl false) H) : rNeD K x y H Q := by
  refine ⟨d, d, h1, h2, hs, hs, ?_⟩
  rw [SeqAt.eqv_refl d (SeqAt.canLay_of_shaped hs)]
  exact k
theorem r_cat {l b : Addr} {xs ys : List V} (h1 : H l = some (.lst xs)) (h2 : H b = some (.lst ys)) (hz : xs.length + ys.length ≤ 1000000) (k : ∀ p H', H p = none → Same H H' → H' p = some (.lst (xs ++ ys)) → Q (.ref p) H') : rCat (.ref l) (.ref b) H Q :=
  ⟨l, b, xs, ys, rfl, rfl, h1, h2, sz5 hz, fun p hp => k p _ hp (Same.new hp) upd_same⟩
/-! displays of dicts -/
theorem mergeK_app : ∀ (more kvs : List (Key × V)), ((kvs ++ more).map (·.1)).Nodup → mergeK kvs more = kvs ++ more
  | [], kvs, _ => by
    rw [List.append_nil]
    rfl
  | (k, v) :: r, kvs, h => by
    have hn : valV kvs k = none := by
      cases e : valV kvs k with
      | none => rfl
      | some u =>
        have hm := valV_in e
        rw [List.map_append] at h
        exact absurd rfl ((List.nodup_append.mp h).2.2 k hm k (by simp))
    show mergeK (putK kvs k v) r = _
    rw [putK_new v hn]
    have e : (kvs ++ [(k, v)]) ++ r = kvs ++ (k, v) :: r := by simp
    rw [mergeK_app r (kvs ++ [(k, v)]) (by rw [e]; exact h), e]
theorem mergeK_nil {kvs : List (Key × V)} (h : (kvs.map (·.1)).Nodup) : mergeK [] kvs = kvs := mergeK_app kvs [] h
def kDisp (p : Addr) (Q : VK) : List (V × V) → Hp → Prop := fun ps H2 => H2 p = some (.dK []) ∧ ∃ kvs : List (Key × V), ps = kvs.map (fun kv => (kV kv.1, kv.2)) ∧ kvs.length ≤ 15 ∧ Q (.ref p) (upd H2 p (.dK (mergeK [] kvs)))
section
variable {σ : L2.St} {tk tv : TE} {trs : List (TE × TE)} {QP : List (V × V) → Hp → Prop} {kvs : List (Key × V)} {ps : List (V × V)}
theorem r_disp (q : ∀ p H', H p = none → Same H H' → H' p = some (.dK []) → tPairs trs σ H' (kDisp p Q)) : tDisp trs σ H Q := fun p hp => q p _ hp (Same.new hp) upd_same
theorem r_pnil (q : QP [] H) : tPairs [] σ H QP := q
theorem r_pcons (q : tk σ H fun x H1 => tv σ H1 fun y H2 => tPairs trs σ H2 fun ps H3 => QP ((x, y) :: ps) H3) : tPairs ((tk, tv) :: trs) σ H QP := q
theorem r_kDisp (kvs : List (Key × V)) (h : H p = some (.dK [])) (e : ps = kvs.map (fun kv => (kV kv.1, kv.2))) (hl : kvs.length ≤ 15) (hn : (kvs.map (·.1)).Nodup) (q : ∀ H', But p H H' → H' p = some (.dK kvs) → Q (.ref p) H') : kDisp p Q ps H :=
  ⟨h, kvs, e, hl, q _ But.upd (by rw [mergeK_nil hn]; exact upd_same)⟩
end
end
end Wp
set_option Elab.async false
set_option linter.all false
set_option maxRecDepth 100000
set_option maxHeartbeats 4000000
/-! Defs that call repr: they run where no repr is under way (the guards are known). repr of data. list(range(a, b, c)). -/
namespace Wp
open PySem PySem.Spec PyProof.Rows L2
/-- the promise of a def wherever no repr runs around it -/
structure FnG (P : Program) (w : World) (K : PySem.W.Frag) (mg : Str → Option Value) (base : Heap) (CX : CXT)
    (k : Nat) (f : Addr) (fd : FuncData) (ps : List Str) (sp : Sp) : Prop where
  len : ∀ vs H Q E, sp vs H Q E → vs.length = ps.length
  run : ∀ (A : Around) (outer : List Env) (s : Shared) (H : Hp) (args : Args) (us : List Value) (vs : List V) (Q : VK) (E : XK),
    Room k A → A.guards = some [] → Env0 P w K mg base A outer s H → BindsTo s fd args (ps.zip us) → Vals vs us → sp vs H Q E →
    codeAny (model P w) A (.call (.ref f) args) (CR CX outer P w H s Q E) s
section
variable {P : Program} {w : World} {K : PySem.W.Frag} {mg : Str → Option Value} {base : Heap}
theorem FnG.of {CX : CXT} {k : Nat} {f : Addr} {fd : FuncData} {ps : List Str} {sp : Sp} (F : FnOk P w K mg base CX k f fd ps sp) : FnG P w K mg base CX k f fd ps sp :=
  ⟨F.len, fun A outer s H args us vs Q E hr _ => F.run A outer s H args us vs Q E hr⟩
/-- where a def's body ends -/
theorem ends_ok {CX : CXT} {N : List Str} {qual : Str} {scope : Scope} {f : Addr} {cdv : Value} {A : Around} {outer : List Env} {s : Shared} {H : Hp} {Q : VK} {E : XK} {fl : Flow} {s' : Shared}
    (h : SP (cxOf CX P w K mg base N qual scope f cdv A outer s H E) [] { nx := fun _ H' => Q .non H', rt := Q } fl s') :
    match fl with | .ret u => CE outer P w H s Q u s' | .next => CE outer P w H s Q .none s' | _ => False := by
  cases fl with
  | ret u =>
    obtain ⟨v, τ, H2, J, rv, q⟩ := h
    exact ⟨v, H2, J.os, J.bare, J.base, J.hok, rv, q⟩
  | next =>
    obtain ⟨τ, H2, J, q⟩ := h
    exact ⟨V.non, H2, J.os, J.bare, J.base, J.hok, rfl, q⟩
  | brk =>
    obtain ⟨_, _, _, q⟩ := h
    exact q
  | cont =>
    obtain ⟨_, _, _, q⟩ := h
    exact q
end
section
variable {P : Program} {w : World} {K : PySem.W.Frag} {mg : Str → Option Value} {base : Heap} {x qual : Str} {params : Arguments} {body : List Stmt} {scope : Scope} {dvs : List V} {kws : List (Str × V)} {f : Addr} {fd : FuncData}
theorem _root_.L2.FunD.okG {CX : CXT} {N ps : List Str} {k : Nat} {sp : Sp} (F : FunD K x qual params body scope dvs kws f fd) (S : FnScope N ps scope)
    (len : ∀ vs H Q E, sp vs H Q E → vs.length = ps.length)
    (hbody : ∀ (cdv : Value) (A : Around) (outer : List Env) (s : Shared) (H : Hp) (vs : List V) (Q : VK) (E : XK),
      Room k (A.deeper (envOfC qual scope s.heap.objs.size f cdv)) → (A.deeper (envOfC qual scope s.heap.objs.size f cdv)).guards = some [] → sp vs H Q E →
      ∃ t, PSs (cxOf CX P w K mg base N qual scope f cdv A outer s H E) body t ∧ t { nx := fun _ H' => Q .non H', rt := Q } (L2.start N vs) H) :
    FnG P w K mg base CX (k + 1) f fd ps sp := by
  obtain ⟨oc, od, dV, kV, doc, pm, an, cdv, ct, osl, rfl, lk, hcd, _, _⟩ := F.ex
  refine ⟨len, ?_⟩
  intro A outer s H args us vs Q E hr hg e0 hb r hsp
  have inK : K.In s.heap := e0.mod.kin.keeps fun a ob q => (e0.bs a ob q).1
  have noLim : s.heap.NoLimit := e0.mod.nolimit.keeps fun a ob q => (e0.bs a ob q).1
  refine codeAny_call_function hr.depth (inK _ _ lk) rfl S.co S.gen rfl (PySem.W.codeRec_of inK hcd) (hb _ _ _ _ ?_)
  refine wpAny_newFunctionEnv_cells S.kind (fun y hy => ?_) fun env he s1 inC => ?_
  · rcases S.par y.1 (List.of_mem_zip hy).1 with z | z
    · exact Or.inl z
    · exact Or.inr ⟨z, PySem.W.cellsFrom_some _ _ _ (Or.inl z)⟩
  · subst he
    obtain ⟨t, ht, hq⟩ := hbody cdv A outer s H vs Q E (hr.deeper _) hg hsp
    refine ⟨noLim.keeps inC.toInCall.keep, codeAny_func ?_⟩
    refine wpAny_mono (ht.run [] s1 _ H _ (inv_start S hr.hd e0 (len _ _ _ _ hsp) r inC) hq) (fun fl s2 hs => ?_) fun _ _ z => z
    have z := ends_ok hs
    cases fl <;> first | exact z | exact z.elim
end
/-- a guarded def of the top, called by its name -/
structure Dg (P : Program) (w : World) (K : PySem.W.Frag) (mg : Str → Option Value) (base : Heap)
    (CX : CXT) (k : Nat) (x : Str) (ps : List Str) (sp : Sp) : Prop where
  ex : ∃ fd, FnG P w K mg base CX k (He.ga K x) fd ps sp ∧ Binds K fd ps []
  gm : mg x = some (.ref (He.ga K x))
  kp : PySem.W.keepIn K (.ref (He.ga K x)) = true
section
variable {X : Cx}
theorem run_fnG {CX : CXT} {k : Nat} {f : Addr} {fd : FuncData} {ps : List Str} {sp : Sp} {E : XK} {pins : List (Addr × Obj)} {σ : L2.St} {H : Hp} {s : Shared} {Q : VK} {us : List Value} {vs : List V}
    (F : FnG X.prog X.w X.K X.mg X.base CX k f fd ps sp) (hr : Room k X.A) (hG : X.A.guards = some []) (hb : Binds X.K fd ps []) (hx : Passes CX X E)
    (I : Inv X pins σ H s) (r : Vals vs us) (h : sp vs H Q E) : wpAny (model X.prog X.w) X.A (call (.ref f) us) (EP X pins σ Q) X.xe s := by
  have hl : us.length = ps.length := r.length.symm.trans (F.len _ _ _ _ h)
  have hb2 := hb s us I.kIn (by rw [List.append_nil]; exact hl)
  rw [List.append_nil] at hb2
  refine wpAny_call (codeAny_mono (F.run X.A X.stack s H ⟨us, []⟩ us vs Q E hr hG I.env0 hb2 r h) fun res s2 hq => ?_)
  cases res with
  | error e => exact hx pins σ H s e s2 I hq
  | ok fl =>
    cases fl with
    | ret u => exact I.after hq
    | next => exact hq.elim
    | brk => exact hq.elim
    | cont => exact hq.elim
theorem pe_fnG {CX : CXT} {k : Nat} {x : Str} {ps : List Str} {sp : Sp} {E : XK} {e : Expr} {es : List Expr}
    {t : TA} {p pos : Pos} (D : Dg X.prog X.w X.K X.mg X.base CX k x ps sp) (hr : Room k X.A) (hG : X.A.guards = some [])
    (hx : Passes CX X E) (ha : PA X (e :: es) t) (hg : Gl X x := by rfl)
    (hdb : (x == ("__debug__" : Str)) = false := by decide)
    (he : starEach (e :: es) X.env = (false, eval e X.env) :: starEach es X.env := by rfl)
    (hpl : (backTo pos (starEach es X.env)).any (·.1) = false := by rfl) :
    PE X (.Call (.Name x p) (e :: es) [] pos) (tFn sp E t) := by
  obtain ⟨fd, F, b⟩ := D.ex
  refine ⟨fun pins s σ H Q I h => wpAny_Call_Name_kw (ld_glob I hg D.gm ?_ hdb)⟩
  refine PySem.W.callWith_K (h₀ := X.base) I.ok.mod.kin D.kp (thn (ha.run pos pins s σ H _ I h) ?_) he hpl
  rintro us s1 ⟨vs, H1, I1, r, q⟩
  exact ⟨I1.kIn, run_fnG F hr hG b hx I1 r q⟩
end
/-! ### repr of data -/
def rRepr (K : PySem.W.Frag) : List V → Hp → VK → Prop := fun xs H Q => ∃ (v : V) (d : PyData), xs = [v] ∧ Dp K H v d ∧ d.showable = true ∧ d.depth ≤ 60 ∧ d.shown.length ≤ sizeLine ∧ d.hasDict = false ∧ Q (.str d.shown) H
theorem call_reprD {X : Cx} {k : Nat} (hG : X.A.guards = some []) (hr : Room k X.A) : CallR X (.builtin "repr") (rRepr X.K) := by
  intro pins s σ H xs us Q I r h
  obtain ⟨v, d, rfl, hd, hs, hdep, hlen, hnd, q⟩ := h
  obtain ⟨u, rfl, ru⟩ := vals1 r
  have hu : X.A.units + (d.depth + 1) < cLine := by
    have := hr.units
    omega
  obtain ⟨as, rd⟩ := Dp.reads I d v u hd ru
  have noD : d.hasDict = true → sysModules ∉ as := fun z => by rw [hnd] at z; cases z
  cases rd with
  | none => exact PySem.P.repr_of_none ⟨.str _, H, I.tok _, ⟨_, rfl⟩, q⟩
  | bool b => exact PySem.P.repr_of_bool ⟨.str _, H, I.tok _, ⟨_, rfl⟩, q⟩
  | int i t => exact PySem.P.repr_of_int (of_decide_eq_true hs) ⟨.str _, H, I.tok _, ⟨_, rfl⟩, q⟩
  | str z t => exact PySem.P.repr_of_str ⟨.str _, H, I.tok _, ⟨_, rfl⟩, q⟩ hlen
  | list h1 h2 h3 h4 =>
    exact repr_of_reads' (.list h1 h2 h3 h4) hs noD hG hu (fun _ _ z => z) (fun h' t2 tk kp => ⟨.str _, H, I.kept kp, ⟨_, rfl⟩, q⟩) hlen
  | tuple h1 h2 h3 h4 =>
    exact repr_of_reads' (.tuple h1 h2 h3 h4) hs noD hG hu (fun _ _ z => z) (fun h' t2 tk kp => ⟨.str _, H, I.kept kp, ⟨_, rfl⟩, q⟩) hlen
  | dict h1 h2 h3 h4 h5 => exact absurd hnd (by simp [PyData.hasDict])
/-! ### the law itself: run by the claim's caller, around which nothing is -/
theorem law_callG {P : Program} {w : World} {K : PySem.W.Frag} {mg mb : Str → Option Value} {CX : CXT} {k : Nat} {fa a : Addr} {fd : FuncData} {x : Str} {sp : Sp} {s1 : Shared} {us : List Value} {zs : List Int}
    (inK : K.In s1.heap) (gl : s1.heap.Ns mainGlobals mg) (bl : s1.heap.Ns builtinsNs mb) (same : ∀ x : Str, x ≠ "__name__" → mb x = bootBuiltins x) (noLim : s1.heap.NoLimit) (gens : s1.gens = #[])
    (ha : s1.heap.get? a = some { cls := .type "list", data := .seq us.toArray }) (hi : IntsAre us zs) (hl : zs.length ≤ sizeLine) (hr : Room k callerA)
    (F : ∀ base : Heap, K.In base → base.Ns mainGlobals mg → FnG P w K mg base CX k fa fd [x] sp) (bind : ∀ (s : Shared) (u : Value), BindsTo s fd ⟨[u], []⟩ [(x, u)])
    (hsp : ∀ H : Hp, Only H → SqL K H a (zs.map V.int) → sp [.ref a] H (fun v _ => v = .bl true) fun _ _ _ => False)
    (hCX : ∀ H e s', CX [] H s1 (fun _ _ _ => False) e s' → False) :
    codeAny (model P w) callerA (.call (.ref fa) ⟨[.ref a], []⟩) (fun r s' => r = .ok (.ret (.bool true)) ∧ OldK s1.heap s'.heap ∧ s'.os = s1.os ∧ AllBare s'.gens) s1 := by
  -- the abstract heap H0 tracks at most the script
  have go : ∀ H0 : Hp, Only H0 → SqL K H0 a (zs.map V.int) → HOk P w H0 s1.heap → (∀ b, H0 b ≠ none → b = a) → (H0 a ≠ none → K.lookup a = none) →
      codeAny (model P w) callerA (.call (.ref fa) ⟨[.ref a], []⟩) (fun r s' => r = .ok (.ret (.bool true)) ∧ OldK s1.heap s'.heap ∧ s'.os = s1.os ∧ AllBare s'.gens) s1 := by
    intro H0 only sq hok onlyA kA
    have dictFree : ∀ (b : Addr) (o : Obj) (es : Array DictEntry) (ep : Nat), s1.heap.get? b = some o → o.data = .dict es ep → H0 b = none := by
      intro b o es ep e d
      cases q : H0 b with
      | none => rfl
      | some u =>
        obtain rfl : b = a := onlyA b (by rw [q]; simp)
        rw [ha] at e
        cases e
        cases d
    have nsH : ∀ (b : Addr) (m : Str → Option Value), s1.heap.Ns b m → (hidT s1.heap H0).Ns b m := by
      rintro b m ⟨o, es, ep, e, d, r⟩
      exact ⟨o, es, ep, hidT_get e (dictFree b o es ep e d), d, r⟩
    have inH : K.In (hidT s1.heap H0) := by
      intro b o e
      refine hidT_get (inK b o e) ?_
      cases q : H0 b with
      | none => rfl
      | some u =>
        obtain rfl : b = a := onlyA b (by rw [q]; simp)
        rw [kA (by rw [q]; simp)] at e
        cases e
    obtain ⟨mc, l1, l2⟩ := noLim
    have md : Mod K mg (hidT s1.heap H0) := ⟨inH, nsH _ _ gl, ⟨mb, nsH _ _ bl, same⟩, ⟨mc, nsH _ _ l1, l2⟩⟩
    have e0 : Env0 P w K mg (hidT s1.heap H0) callerA [] s1 H0 :=
      ⟨rfl, md, fun b o e => of_hidT e, Nat.le_of_eq (hidT_size _ _), trivial, (fun b hb => nomatch hb), hok, .of_eq gens⟩
    have run := (F _ inH (nsH _ _ gl)).run callerA [] s1 H0 ⟨[.ref a], []⟩ [.ref a] [.ref a] _ _ hr rfl e0 (bind s1 (.ref a)) (.cons rfl .nil) (hsp H0 only sq)
    refine codeAny_mono run fun res s2 h => ?_
    cases res with
    | error e => exact (hCX H0 e s2 h).elim
    | ok fl =>
      cases fl with
      | next => exact h.elim
      | brk => exact h.elim
      | cont => exact h.elim
      | ret u =>
        obtain ⟨v, H2, os2, bare2, un, hok2, rv, q⟩ := h
        obtain rfl : v = .bl true := q
        obtain rfl : u = Value.bool true := rv
        refine ⟨rfl, OldK.of_keep fun b o e => ?_, os2, bare2⟩
        rcases only b with z | ⟨ob, xs, z⟩
        · exact un.keep b o e z (fun y => nomatch y) (fun y => nomatch y)
        · obtain ⟨g1, _⟩ := hok b _ z
          obtain ⟨g2, _⟩ := hok2 b _ (un.frzs b ob _ z)
          rw [e] at g1
          cases g1
          exact g2
  cases hk : K.lookup a with
  | some o =>
    have e := inK a o hk
    rw [ha] at e
    cases e
    exact go (fun _ => none) (fun _ => .inl rfl) (.inr ⟨_, us.toArray, _, hk, rfl, rfl, rfl, by rw [List.size_toArray, hi.length]; exact hl, by simpa using vals_ints hi⟩)
      (fun b u z => nomatch z) (fun b z => absurd rfl z) fun z => absurd rfl z
  | none =>
    let fz : HO := .frz { cls := .type "list", data := .seq us.toArray } (.lst (zs.map V.int))
    have atA : upd (fun _ => none) a fz a = some fz := upd_same
    refine go (upd (fun _ => none) a fz) (fun b => ?_) (.inl (.inr ⟨_, atA⟩)) (fun b u z => ?_) (fun b z => ?_) fun _ => hk
    · by_cases hb : b = a
      · subst hb
        exact .inr ⟨_, _, atA⟩
      · exact .inl (upd_ne hb)
    · by_cases hb : b = a
      · subst hb
        rw [atA] at z
        cases z
        exact ⟨ha, by rw [List.length_map]; exact hl, us, _, vals_ints hi, ha⟩
      · rw [upd_ne hb] at z
        cases z
    · by_cases hb : b = a
      · exact hb
      · exact absurd (upd_ne hb) z
theorem walk_ofG {l : PySem.W.OpenLaw} {n k : Nat} {q : Program} {loose : List Str} {XP : (Str → Option Value) → Heap → Prop} {YP : World → Heap → Prop} {d : DefRec} {CX : CXT} {x : Str}
    (hn : l.most = some n) (hn2 : n ≤ sizeLine) (hdf : d.params.defaults = []) (hr : Room k callerA)
    (F : ∀ (w : World) (mg : Str → Option Value) (fa : Addr) (h : Heap), YP w h → h.Ns mainGlobals mg → mg d.name = some (.ref fa) →
      ∃ (K : PySem.W.Frag) (fd : FuncData) (sp : Sp), K.In h ∧ (∀ (s : Shared) (u : Value), BindsTo s fd ⟨[u], []⟩ [(x, u)]) ∧
        (∀ (H : Hp) (a : Addr) (ns : List Int), ns.length ≤ n → Only H → SqL K H a (ns.map V.int) → sp [.ref a] H (fun v _ => v = .bl true) fun _ _ _ => False) ∧
        ∀ base : Heap, K.In base → base.Ns mainGlobals mg → FnG l.prog w K mg base CX k fa fd [x] sp)
    (hCX : ∀ (H : Hp) (s : Shared) (e : Value) (s' : Shared), CX [] H s (fun _ _ _ => False) e s' → False) :
    PySem.W.WalkO q loose XP YP l.row.toRowW d [] (fun f vs => PySem.call f vs) := by
  refine Att.attach_call hn hdf ?_
  intro w s0 s1 mg mb fa o pm cd doc a us zs G Y _ _ _ hmg hobj hints hlen hg
  obtain ⟨K, fd, sp, inK, hb, hsp, hF⟩ := F w mg fa _ Y G.T.g hmg
  exact law_callG inK G.T.g G.T.b G.T.builtins G.T.nolimit hg hobj hints (Nat.le_trans hlen hn2) hr hF hb (fun H o1 sq => hsp H a zs hlen o1 sq) fun H e s2 => hCX H s1 e s2
end Wp
set_option Elab.async false
set_option linter.all false
set_option maxRecDepth 100000
set_option maxHeartbeats 4000000
/-! The rules whose reading names the written part, with the written part as a letter of its own (so that readings within comprehensions and outside are the same). -/
namespace Wp
open PySem PySem.Spec PyProof.Rows L2
section
variable {X : Cx} {K : PySem.W.Frag}
theorem ix_listK (h : X.K = K) : IxR X (rIxL K) := by subst h; exact ix_list
theorem ix_tupK (h : X.K = K) : IxR X (rIxT K) := by subst h; exact ix_tup
theorem ix_seqK (h : X.K = K) : IxR X (rIx K) := by subst h; exact ix_seq
theorem sl_listK (h : X.K = K) : SlR X (rSlL K) := by subst h; exact sl_list
theorem sl_tupK (h : X.K = K) : SlR X (rSlT K) := by subst h; exact sl_tup
theorem c_lenK (h : X.K = K) : CallR X (.builtin "len") (rLen K) := by subst h; exact c_len
theorem c_listK (h : X.K = K) : CallR X (.type "list") (rListOf K) := by subst h; exact c_list
theorem c_isiK (h : X.K = K) : CallR X (.builtin "isinstance") (rIsi K) := by subst h; exact call_isi
theorem c_isiTK (h : X.K = K) : CallR X (.builtin "isinstance") (rIsiT K) := by subst h; exact call_isiT
theorem c_sumK (h : X.K = K) (c : X.calm = true) : CallR X (.builtin "sum") (rSum K) := by subst h; exact cr_sum c
theorem c_allK (h : X.K = K) (c : X.calm = true) : CallR X (.builtin "all") (rAll K) := by subst h; exact cr_all c
theorem c_anyK (h : X.K = K) (c : X.calm = true) : CallR X (.builtin "any") (rAny K) := by subst h; exact cr_any c
theorem c_minK (h : X.K = K) (c : X.calm = true) : CallR X (.builtin "min") (rMin K) := by subst h; exact cr_min c
theorem c_maxK (h : X.K = K) (c : X.calm = true) : CallR X (.builtin "max") (rMax K) := by subst h; exact cr_max c
theorem c_sortedK (h : X.K = K) : CallR X (.builtin "sorted") (rSorted K) := by subst h; exact cr_sorted
theorem c_sortedSK (h : X.K = K) : CallR X (.builtin "sorted") (rSortedS K) := by subst h; exact cr_sortedS
theorem c_reprK {k : Nat} (h : X.K = K) (hG : X.A.guards = some []) (hr : Room k X.A) : CallR X (.builtin "repr") (rRepr K) := by subst h; exact call_reprD hG hr
def rTupOf (K : PySem.W.Frag) : List V → Hp → VK → Prop := fun xs H Q => ∃ p ys, xs = [.ref p] ∧ ((SqL K H p ys ∧ ∀ l, H l = none → Q (.ref l) (upd H l (.tup ys))) ∨ (SqT K H p ys ∧ Q (.ref p) H))
theorem c_tupleK (h : X.K = K) : CallR X (.type "tuple") (rTupOf K) := by subst h; exact call_tuple_of
theorem in_seqK (h : X.K = K) : OpR X (compareOp .In) (rIn K false) := by subst h; exact op_in_seq
theorem notIn_seqK (h : X.K = K) : OpR X (compareOp .NotIn) (rIn K true) := by subst h; exact op_notIn_seq
theorem eqDK (h : X.K = K) (hu : X.A.units + 64 < cLine) : OpR X (compareOp .Eq) (rEqD K) := by subst h; exact op_eqD hu
theorem neDK (h : X.K = K) (hu : X.A.units + 64 < cLine) : OpR X (compareOp .NotEq) (rNeD K) := by subst h; exact op_neD hu
theorem pe_fldK {e : Expr} {f : Str} {pos : Pos} {ta : TE} (h : X.K = K) (he : PE X e ta) (hb : attributeBase e f X.env (eval e X.env) = eval e X.env := by rfl) : PE X (.Attribute e f pos) (tFld K ta f) := by
  subst h
  exact pe_fld he hb
theorem ps_fldK {o value : Expr} {f : Str} {pos pos' : Pos} {ta tv : TE} (h : X.K = K) (ha : PE X o ta) (hv : PE X value tv) (hs : swapsWith value (some (.Attribute o f pos')) pos.line X.env = pure false := by rfl) : PS X (.Assign [.Attribute o f pos'] value pos) (sFld K ta tv f) := by
  subst h
  exact ps_fld ha hv hs
theorem pg_tupK {es : List Expr} {k : Nat} {t : TGs} {n : Nat} {pos : Pos} (h : X.K = K) (hc : X.calm = true) (hh : PGs X es t)
    (hn : (assignEach es X.env).length = n := by rfl) (hst : (assignEach es X.env).findIdx? (·.1) = none := by rfl) : PG X (.Tuple es k pos) (gTup K n t) := by
  subst h
  exact pg_tup hc hh hn hst
theorem pi_listK {l tg : Expr} {tl : TE} (h : X.K = K) (hl : PE X l tl) : PI X tg l (iList K tl) := by
  subst h
  exact pi_list hl
theorem pi_tupK {l tg : Expr} {tl : TE} (h : X.K = K) (hl : PE X l tl) : PI X tg l (iTup K tl) := by
  subst h
  exact pi_tup hl
theorem pe_bmK {T : String} {name : Str} {id : String} {r : V → List V → Hp → VK → Prop} {o e : Expr} {es : List Expr} {to : TE} {t : TA} {apos cpos : Pos} (h : X.K = K) (pa : PlainAttrs T) (slot : Slot T name id) (hty : typeOf (.builtin id) = pure (.type "method_descriptor")) (hm : MtR X id r) (ho : PE X o to) (ha : PA X (e :: es) t)
    (hbase : attributeBase o name X.env (eval o X.env) = eval o X.env := by rfl)
    (hfew : ((backTo cpos (starEach (e :: es) X.env)).all (fun x => !x.1) && (backToKw cpos (keywordEach [] X.env)).all (fun x => x.1.isSome) && decide ((e :: es).length + ([] : List Keyword).length + (if ([] : List Keyword).isEmpty then 0 else 1) < 30)) = true := by rfl)
    (hline : (apos.endLine == cpos.line) = true := by rfl) (he : starEach (e :: es) X.env = (false, eval e X.env) :: starEach es X.env := by rfl) (hpl : (backTo cpos (starEach es X.env)).any (·.1) = false := by rfl) :
    PE X (.Call (.Attribute o name apos) (e :: es) [] cpos) (tBM K T r to t) := by
  subst h
  exact pe_bm pa slot hty hm ho ha hbase hfew hline he hpl
end
end Wp
set_option Elab.async false
set_option linter.all false
set_option maxRecDepth 100000
set_option maxHeartbeats 4000000
/-! Calls by keywords alone; classes called; isinstance. -/
namespace Wp
open PySem PySem.Spec PyProof.Rows L2
def swap2 {α : Type} : List α → List α
  | [a, b] => [b, a]
  | l => l
def rev3 {α : Type} : List α → List α
  | [a, b, c] => [c, b, a]
  | l => l
theorem swap2_rel {vs : List V} {us : List Value} (r : Vals vs us) : Vals (swap2 vs) (swap2 us) := by
  match vs, us, r with
  | [], _, .nil => exact .nil
  | [_], _, .cons a .nil => exact .cons a .nil
  | [_, _], _, .cons a (.cons b .nil) => exact .cons b (.cons a .nil)
  | _ :: _ :: _ :: _, _, .cons a (.cons b (.cons c d)) => exact .cons a (.cons b (.cons c d))
theorem rev3_rel {vs : List V} {us : List Value} (r : Vals vs us) : Vals (rev3 vs) (rev3 us) := by
  match vs, us, r with
  | [], _, .nil => exact .nil
  | [_], _, .cons a .nil => exact .cons a .nil
  | [_, _], _, .cons a (.cons b .nil) => exact .cons a (.cons b .nil)
  | [_, _, _], _, .cons a (.cons b (.cons c .nil)) => exact .cons c (.cons b (.cons a .nil))
  | _ :: _ :: _ :: _ :: _, _, .cons a (.cons b (.cons c (.cons d e))) => exact .cons a (.cons b (.cons c (.cons d e)))
/-- a def called by keywords ks alone; g puts their values in the parameters' order -/
structure Dq (P : Program) (w : World) (K : PySem.W.Frag) (mg : Str → Option Value) (base : Heap)
    (CX : CXT) (k : Nat) (x : Str) (ks : List Str) (g : List V → List V) (sp : Sp) : Prop where
  ex : ∃ (fd : FuncData) (ps : List Str) (gv : List Value → List Value), FnOk P w K mg base CX k (He.ga K x) fd ps sp ∧ KBn K fd ps 0 ks (fun _ ws => gv ws) (fun _ zs => g zs)
  gm : mg x = some (.ref (He.ga K x))
  kp : PySem.W.keepIn K (.ref (He.ga K x)) = true
def kFnK (n : Nat) (g : List V → List V) (sp : Sp) (E : XK) (Q : VK) : List V → Hp → Prop := fun zs H1 => zs.length = n ∧ sp (g zs) H1 Q E
def tFnK (n : Nat) (g : List V → List V) (sp : Sp) (E : XK) (tk : TA) : TE := fun σ H Q => tk σ H (kFnK n g sp E Q)
section
variable {X : Cx}
theorem pe_fnK0 {CX : CXT} {k : Nat} {x : Str} {ks : List Str} {g : List V → List V} {sp : Sp} {E : XK} {kws : List Keyword} {tk : TA} {p pos : Pos}
    (D : Dq X.prog X.w X.K X.mg X.base CX k x ks g sp) (hr : Room k X.A) (hx : Passes CX X E) (hkw : PK X kws tk) (hg : Gl X x := by rfl)
    (hall : (backToKw pos (keywordEach kws X.env)).all (·.1.isSome) = true := by rfl) (hks : (backToKw pos (keywordEach kws X.env)).filterMap (·.1) = ks := by rfl)
    (hdb : (x == ("__debug__" : Str)) = false := by decide)
    (hpl : ((backTo pos (starEach [] X.env)).any (·.1) || (backToKw pos (keywordEach kws X.env)).any (·.1.isNone)) = false := by rfl) :
    PE X (.Call (.Name x p) [] kws pos) (tFnK ks.length g sp E tk) := by
  obtain ⟨fd, ps, gv, F, b⟩ := D.ex
  refine ⟨fun pins s σ H Q I h => wpAny_Call_Name_kw (ld_glob I hg D.gm ?_ hdb)⟩
  refine PySem.W.callWith_KW0 (h₀ := X.base) I.ok.mod.kin D.kp hall (thn (hkw.run pos pins s σ H _ I h) ?_) hpl
  rintro ws s2 ⟨zs, H2, I2, rz, l2, q2⟩
  refine ⟨I2.kIn, ?_⟩
  rw [hks]
  exact run_fnN (us := []) (vs := []) F hr b hx I2 .nil rz rfl l2 q2
theorem r_fnK {n : Nat} {g : List V → List V} {sp : Sp} {E : XK} {tk : TA} {σ : L2.St} {H : Hp} {Q : VK} (q : tk σ H (kFnK n g sp E Q)) : tFnK n g sp E tk σ H Q := q
theorem r_kFnK {n : Nat} {g : List V → List V} {sp : Sp} {E : XK} {H : Hp} {Q : VK} {zs : List V} (l : zs.length = n) (q : sp (g zs) H Q E) : kFnK n g sp E Q zs H := ⟨l, q⟩
end
section
variable {P : Program} {w : World} {K : PySem.W.Frag} {mg : Str → Option Value} {base : Heap} {x qual : Str} {params : Arguments} {body : List Stmt} {scope : Scope} {dvs : List V} {kws : List (Str × V)} {f : Addr} {fd : FuncData}
/-- how keywords alone bind (a def without defaults) -/
theorem kbn_of {ps ks : List Str} {gv : List Value → List Value} {g : List V → List V} (F : FunD K x qual params body scope [] kws f fd)
    (hrel : ∀ {vs : List V} {us : List Value}, Vals vs us → Vals (g vs) (gv us))
    (h : ∀ (kV doc pm : Value) (an : Option Addr) (cdv ct : Value) (ws : List Value), ws.length = ks.length → bindArgs (PySem.W.fnOf x qual params body scope .none kV doc pm an cdv ct) ⟨[], ks.zip ws⟩ = pure (ps.zip (gv ws))) :
    KBn K fd ps 0 ks (fun _ ws => gv ws) (fun _ zs => g zs) := by
  obtain ⟨oc, od, dV, kV, doc, pm, an, cdv, ct, osl, rfl, lk, hcd, hD, hK⟩ := F.ex
  rcases hD with ⟨_, rfl⟩ | ⟨e, _⟩
  · refine ⟨fun s us ws _ l1 l2 => ?_, fun _ r => hrel r⟩
    obtain rfl : us = [] := List.length_eq_zero_iff.mp l1
    exact .of_eq (h kV doc pm an cdv ct ws l2)
  · exact absurd rfl e
end
/-! ### classes called -/
/-- what a new instance of the class at C is given to: its __init__ with the promise sp -/
def spMk (C : Addr) (sp : Sp) (dvs : List V) : Sp := fun vs H Q E => ∀ x dx, H x = none → H dx = none → dx ≠ x →
  sp (.ref x :: (vs ++ dvs)) (upd (upd H dx (.own x)) x (.ins C dx [])) (fun v H2 => v = .non ∧ Q (.ref x) H2) E
structure Dc (P : Program) (w : World) (K : PySem.W.Frag) (mg : Str → Option Value) (base : Heap)
    (CX : CXT) (k : Nat) (x : Str) (sp : Sp) : Prop where
  ex : ∃ fI fd ps spI dvs ds, Mk K (He.ga K x) fI ∧ FnOk P w K mg base CX k fI fd ps spI ∧ Binds K fd ps ds ∧ Vals dvs ds ∧ ∀ vs H Q E, sp vs H Q E → spMk (He.ga K x) spI dvs vs H Q E
  gm : mg x = some (.ref (He.ga K x))
section
variable {X : Cx}
theorem pe_mk {CX : CXT} {k : Nat} {x : Str} {sp : Sp} {E : XK} {e : Expr} {es : List Expr} {t : TA} {p pos : Pos}
    (D : Dc X.prog X.w X.K X.mg X.base CX k x sp) (hr : Room (k + 1) X.A) (hx : Passes CX X E) (ha : PA X (e :: es) t) (hg : Gl X x := by rfl)
    (hdb : (x == ("__debug__" : Str)) = false := by decide)
    (he : starEach (e :: es) X.env = (false, eval e X.env) :: starEach es X.env := by rfl)
    (hpl : (backTo pos (starEach es X.env)).any (·.1) = false := by rfl) :
    PE X (.Call (.Name x p) (e :: es) [] pos) (tFn sp E t) := by
  obtain ⟨fI, fd, ps, spI, dvs, ds, M, F, b, hd, imp⟩ := D.ex
  refine ⟨fun pins s σ H Q I h => wpAny_Call_Name_kw (ld_glob I hg D.gm ?_ hdb)⟩
  refine PySem.W.callWith_K (h₀ := X.base) I.ok.mod.kin M.kp (thn (ha.run pos pins s σ H _ I h) ?_) he hpl
  rintro us s1 ⟨vs, H1, I1, r, q⟩
  exact ⟨I1.kIn, run_make M F hr b hd hx I1 r (imp vs H1 Q E q)⟩
end
/-! ### isinstance of plain values -/
section
variable {K : PySem.W.Frag} {H : Hp} {Q : VK} {x : V} {i : Int} {b : Bool} {z : Str} {p : Addr} {xs : List V}
theorem r_isiT {a c : String} {r : Bool} (h : TyX K H x (.type a)) (hk : kitB a c = some r) (q : Q (.bl r) H) : rIsi K [x, .ty c] H Q := ⟨x, .ty c, .type a, .type c, r, rfl, .ty c, h, kit_ty hk, q⟩
theorem r_isi_ii (q : Q (.bl true) H) : rIsi K [.int i, .ty "int"] H Q := r_isiT (.base (.int i)) (by decide +kernel) q
theorem r_isi_ib (q : Q (.bl false) H) : rIsi K [.int i, .ty "bool"] H Q := r_isiT (.base (.int i)) (by decide +kernel) q
theorem r_isi_is (q : Q (.bl false) H) : rIsi K [.int i, .ty "str"] H Q := r_isiT (.base (.int i)) (by decide +kernel) q
theorem r_isi_it (q : Q (.bl false) H) : rIsi K [.int i, .ty "tuple"] H Q := r_isiT (.base (.int i)) (by decide +kernel) q
theorem r_isi_bi (q : Q (.bl true) H) : rIsi K [.bl b, .ty "int"] H Q := r_isiT (.base (.bl b)) (by decide +kernel) q
theorem r_isi_bb (q : Q (.bl true) H) : rIsi K [.bl b, .ty "bool"] H Q := r_isiT (.base (.bl b)) (by decide +kernel) q
theorem r_isi_ss (q : Q (.bl true) H) : rIsi K [.str z, .ty "str"] H Q := r_isiT (.base (.str z)) (by decide +kernel) q
theorem r_isi_tt (h : H p = some (.tup xs)) (q : Q (.bl true) H) : rIsi K [.ref p, .ty "tuple"] H Q := r_isiT (.base (.tup h)) (by decide +kernel) q
/-- is it a number -/
inductive NumV (K : PySem.W.Frag) (H : Hp) : V → Option Int → Prop
  | int (i : Int) : NumV K H (.int i) (some i)
  | no {x : V} {t : Value} {b1 b2 : Bool} : TyX K H x t → PySem.W.kitOne K t (.type "int") = some b1 → PySem.W.kitOne K t (.type "bool") = some b2 → (b1 && !b2) = false → NumV K H x none
def inB : Option Int → Int → Int → Bool
  | some i, lo, hi => decide (lo ≤ i) && decide (i ≤ hi)
  | none, _, _ => false
theorem inB_yes {i lo hi : Int} (h : lo ≤ i ∧ i ≤ hi) : inB (some i) lo hi = true := by
  simp [inB, h.1, h.2]
end
end Wp
set_option Elab.async false
set_option linter.all false
set_option maxRecDepth 100000
set_option maxHeartbeats 4000000
/-! list(range(a, b, c)) -/
namespace Wp
open PySem PySem.Spec PyProof.Rows L2
def rg3 (i c : Int) (n : Nat) : List V := (List.range n).map fun k : Nat => V.int (i + (k : Int) * c)
def kRg3 (Q : VK) : List V → Hp → Prop := fun vs H1 => ∃ (i j c : Int) (n : Nat), vs = [.int i, .int j, .int c] ∧ RgC i j c n ∧ n ≤ 1000000 ∧ ∀ q, H1 q = none → Q (.ref q) (upd H1 q (.lst (rg3 i c n)))
def tRg3 (ta : TA) : TE := fun σ H Q => ta σ H (kRg3 Q)
section
variable {X : Cx} {a b c : Expr} {ta : TA} {p p2 pos pos2 : Pos}
theorem vals_rg3 {i k : Int} {n : Nat} {acc : Array Value} (h : ItemsOf (fun j v => ∃ t, v = .int (i + j * k) t) acc n) : Vals (rg3 i k n) acc.toList := by
  have el : acc.toList.length = n := by
    rw [Array.length_toList]
    exact h.1
  unfold rg3
  rw [← el]
  refine vals_of_get acc.toList _ fun j u hj => ?_
  obtain ⟨t, rfl⟩ := h.2 j u (by rw [← hj, Array.getElem?_toList])
  exact ⟨t, rfl⟩
theorem pe_listRg3 (hc : X.calm = true) (hl : Gl X "list") (ml : X.mg "list" = none) (hr : Gl X "range") (mr : X.mg "range" = none) (ha : PA X [a, b, c] ta)
    (hs : starEach [a, b, c] X.env = (false, eval a X.env) :: starEach [b, c] X.env := by rfl) (hpl : (backTo pos2 (starEach [b, c] X.env)).any (·.1) = false := by rfl)
    (na : starEach [.Call (.Name "range" p2) [a, b, c] [] pos2] X.env = (false, eval (.Call (.Name "range" p2) [a, b, c] [] pos2) X.env) :: starEach [] X.env := by rfl) :
    PE X (.Call (.Name "list" p) [.Call (.Name "range" p2) [a, b, c] [] pos2] [] pos) (tRg3 ta) := by
  refine ⟨fun pins s σ H Q I h => ?_⟩
  have inner : wpAny (model X.prog X.w) X.A (eval (.Call (.Name "range" p2) [a, b, c] [] pos2) X.env)
      (fun x s' => ∃ (r : Addr) (i j k : Int) (n : Nat) (t u v : Tok) (H' : Hp), x = .ref r ∧ IsRange s'.heap r i j k t u v ∧ Inv X pins σ H' s' ∧ RgC i j k n ∧ n ≤ 1000000 ∧ ∀ q, H' q = none → Q (.ref q) (upd H' q (.lst (rg3 i k n)))) X.xe s := by
    refine Call_ (ld_blt I hr mr boot_range (PyProof.Rows.callWith_type1 (thn (ha.run pos2 pins s σ H _ I h) ?_) hs hpl))
    rintro us s1 ⟨vs, H1, I1, r1, i, j, k, n, e, rg, hn, q⟩
    subst e
    obtain ⟨c0, c1, c2, c3⟩ := id rg
    match us, r1 with
    | _, .cons r (.cons r' (.cons r'' .nil)) =>
      obtain ⟨t, rfl⟩ := r
      obtain ⟨t', rfl⟩ := r'
      obtain ⟨t'', rfl⟩ := r''
      exact call_range_3 c0 ⟨_, i, j, k, n, t, t', t'', H1, rfl, IsRange.new .., I1.kept fun b o z => Heap.get?_push_of_some _ z, rg, hn, q⟩ (.inl (PyProof.noPylong_small c1))
  refine Call_ (ld_blt I hl ml boot_list (PyProof.Rows.callWith_type1 (args_cons (thn inner ?_) na) na))
  rintro x s1 ⟨r, i, j, k, n, t, u, v, H1, rfl, hr1, I1, ⟨c0, c1, c2, c3⟩, hn, q⟩
  refine args_nil ?_
  refine call_list_range (n := n) (I1.ok.hd hc) hr1 c2 c3 (by omega) fun h' tk acc cap kp hobj items => ?_
  refine ⟨.ref s1.heap.objs.size, upd H1 s1.heap.objs.size (.lst (rg3 i k n)), I1.laid kp (Nat.le_refl _) ?_, rfl, q _ (I1.hok.fresh (Nat.le_refl _))⟩
  refine ⟨?_, acc.toList, cap, vals_rg3 items, ?_⟩
  · unfold rg3
    rw [List.length_map, List.length_range]
    exact sz5 hn
  · rw [Array.toArray_toList]
    exact hobj
theorem r_rg3 {σ : L2.St} {H : Hp} {Q : VK} (q : ta σ H (kRg3 Q)) : tRg3 ta σ H Q := q
theorem r_kRg3 {H : Hp} {Q : VK} {i j c : Int} {n : Nat} (h : RgC i j c n) (hn : n ≤ 1000000) (q : ∀ p H', H p = none → Same H H' → H' p = some (.lst (rg3 i c n)) → Q (.ref p) H') : kRg3 Q [.int i, .int j, .int c] H :=
  ⟨i, j, c, n, rfl, h, hn, fun p hp => q p _ hp (Same.new hp) upd_same⟩
end
/-- downward by d -/
theorem rgc_down {x d : Int} (h0 : 0 ≤ x) (h1 : x ≤ 1000000) (hd : 1 ≤ d) (hd2 : d ≤ 1000000) : RgC x 0 (0 - d) ((x + d - 1) / d).toNat := by
  have hs : Builtin.Range.rangeSize x 0 (0 - d) = (x + d - 1) / d := by
    unfold Builtin.Range.rangeSize
    rw [if_neg (by omega)]
    by_cases hx : x > 0
    · rw [if_pos hx]
      have e : -(0 - d) = d := by omega
      rw [e]
      have e2 : x + d - 1 = (x - 0 - 1) + 1 * d := by omega
      rw [e2, Int.add_mul_ediv_right _ _ (by omega)]
    · have hx0 : x = 0 := by omega
      subst hx0
      rw [if_neg (by omega), Int.ediv_eq_zero_of_lt (by omega) (by omega)]
  have hq0 : 0 ≤ (x + d - 1) / d := Int.ediv_nonneg (by omega) (by omega)
  refine ⟨by omega, by omega, ?_, by rw [hs]; omega⟩
  have hq1 : (x + d - 1) / d ≤ x + d - 1 := Int.ediv_le_self _ (by omega)
  unfold Builtin.Range.small
  rw [hs, if_neg (by omega)]
  simp only [Builtin.Range.rangeFitsLong, Bool.and_eq_true, Bool.or_eq_true, decide_eq_true_eq]
  refine ⟨⟨⟨⟨⟨?_, ?_⟩, ?_, ?_⟩, ?_, ?_⟩, ?_, ?_⟩, Or.inr ⟨?_, ?_⟩⟩ <;> omega
end Wp
set_option Elab.async false
set_option linter.all false
set_option maxRecDepth 100000
set_option maxHeartbeats 4000000
/-! repr of data: how long it is at most. -/
namespace Wp
open PySem PySem.Spec PyProof.Rows L2
mutual
/-- no dicts, ints below 10 ^ 60 -/
def smI : PyData → Bool
  | .none => true
  | .bool _ => true
  | .int i => decide (i.natAbs < 10 ^ 60)
  | .str x => x.cps.toList.all fun c => decide (c < 16 ^ 8)
  | .list xs => smAll xs
  | .tuple xs => smAll xs
  | .dict _ => false
def smAll : List PyData → Bool
  | [] => true
  | x :: xs => smI x && smAll xs
end
mutual
def wz : PyData → Nat
  | .none => 4
  | .bool _ => 5
  | .int _ => 61
  | .str x => 10 * x.cps.size + 8
  | .list xs => wzAll xs + 3
  | .tuple xs => wzAll xs + 3
  | .dict _ => 0
def wzAll : List PyData → Nat
  | [] => 0
  | x :: xs => wz x + 2 + wzAll xs
end
theorem smAll_cons {x : PyData} {xs : List PyData} : smAll (x :: xs) = (smI x && smAll xs) := by rw [smAll]
theorem shownAll_len : ∀ xs : List PyData, (PyData.shownAll xs).length = xs.length
  | [] => by simp [PyData.shownAll]
  | x :: xs => by simp [PyData.shownAll, shownAll_len xs]
mutual
theorem shown_wz : ∀ d : PyData, smI d = true → d.shown.length ≤ wz d
  | .none, _ => by
    simp only [PyData.shown, wz]
    decide
  | .bool b, _ => by
    simp only [PyData.shown, wz]
    cases b <;> decide
  | .int i, h => by
    have e := int_text_length_le10 (k := 60) (by decide) (of_decide_eq_true (by simpa [smI] using h))
    simp only [PyData.shown, wz]
    rw [PySem.ofString_length]
    exact e
  | .str x, h => by
    have e := PyData.shown_le 8 (by decide) (.str x) (by simpa [PyData.leavesShort, smI] using h)
    simp only [PyData.weight] at e
    simp only [wz]
    omega
  | .list xs, h => by
    have h1 := shown_wzAll xs (by simpa [smI] using h)
    have h2 := listText_len_le (PyData.shownAll xs)
    rw [shownAll_len] at h2
    simp only [PyData.shown, wz]
    omega
  | .tuple xs, h => by
    have h1 := shown_wzAll xs (by simpa [smI] using h)
    have h2 := tupleText_len_le (PyData.shownAll xs)
    rw [shownAll_len] at h2
    simp only [PyData.shown, wz]
    omega
  | .dict kvs, h => by simp [smI] at h
theorem shown_wzAll : ∀ xs : List PyData, smAll xs = true → ((PyData.shownAll xs).map (·.length)).sum + 2 * xs.length ≤ wzAll xs
  | [], _ => by simp [PyData.shownAll, wzAll]
  | x :: xs, h => by
    rw [smAll_cons] at h
    obtain ⟨h1, h2⟩ := Bool.and_eq_true_iff.mp h
    have e1 := shown_wz x h1
    have e2 := shown_wzAll xs h2
    simp only [PyData.shownAll, List.map_cons, List.sum_cons, List.length_cons, wzAll]
    omega
end
mutual
theorem show_sm : ∀ d : PyData, smI d = true → d.showable = true ∧ d.hasDict = false
  | .none, _ => by simp [PyData.showable, PyData.hasDict]
  | .bool b, _ => by simp [PyData.showable, PyData.hasDict]
  | .int i, h => by
    have e : i.natAbs < 10 ^ 60 := of_decide_eq_true (by simpa [smI] using h)
    refine ⟨?_, by simp [PyData.hasDict]⟩
    simp only [PyData.showable, decide_eq_true_eq]
    by_cases h0 : i.natAbs = 0
    · rw [h0]
      decide
    · exact (Nat.log2_lt h0).mpr (Nat.lt_of_lt_of_le e (by decide +kernel))
  | .str x, _ => by simp [PyData.showable, PyData.hasDict]
  | .list xs, h => by
    have e := show_smAll xs (by simpa [smI] using h)
    simpa [PyData.showable, PyData.hasDict] using e
  | .tuple xs, h => by
    have e := show_smAll xs (by simpa [smI] using h)
    simpa [PyData.showable, PyData.hasDict] using e
  | .dict kvs, h => by simp [smI] at h
theorem show_smAll : ∀ xs : List PyData, smAll xs = true → PyData.showableAll xs = true ∧ PyData.hasDictAll xs = false
  | [], _ => by simp [PyData.showableAll, PyData.hasDictAll]
  | x :: xs, h => by
    rw [smAll_cons] at h
    obtain ⟨h1, h2⟩ := Bool.and_eq_true_iff.mp h
    obtain ⟨e1, e2⟩ := show_sm x h1
    obtain ⟨e3, e4⟩ := show_smAll xs h2
    simp [PyData.showableAll, PyData.hasDictAll, e1, e2, e3, e4]
end
section
variable {K : PySem.W.Frag} {H : Hp} {Q : VK} {v : V} {d : PyData}
theorem r_repr (hd : Dp K H v d) (h1 : smI d = true) (h2 : d.depth ≤ 60) (h3 : wz d ≤ 16777216) (q : Q (.str d.shown) H) : rRepr K [v] H Q := by
  obtain ⟨e1, e2⟩ := show_sm d h1
  exact ⟨v, d, rfl, hd, e1, h2, by rw [sizeLine_eq]; exact Nat.le_trans (shown_wz d h1) h3, e2, q⟩
theorem sm_ints : ∀ {ns : List Int}, (∀ n ∈ ns, n.natAbs < 10 ^ 60) → smAll (ns.map PyData.int) = true
  | [], _ => by simp [smAll]
  | n :: r, h => by
    rw [List.map_cons, smAll_cons, sm_ints fun m hm => h m (List.mem_cons_of_mem _ hm)]
    simp [smI, h n (List.mem_cons_self ..)]
theorem wz_ints : ∀ ns : List Int, wzAll (ns.map PyData.int) = 63 * ns.length
  | [] => by simp [wzAll]
  | n :: r => by
    simp only [List.map_cons, wzAll, wz, List.length_cons]
    rw [wz_ints r]
    omega
end
end Wp
set_option Elab.async false
set_option linter.all false
set_option maxRecDepth 100000
set_option maxHeartbeats 4000000
namespace Wp
open PySem PySem.Spec PyProof.Rows L2
def topS (i : Nat) : Stmt := PySem.Challenge.pw_wholepaid_k73_balances_that_end.main.body.getD i (.Pass ⟨0, 0, 0, 0⟩)
abbrev s__law_begun : Stmt := topS 21
abbrev s__law_mixed : Stmt := topS 22
abbrev s__law_take : Stmt := topS 23
abbrev s__law_pick : Stmt := topS 24

/-! ### the source of draws: a dict of four entries -/
def dkv (l c : Addr) (r t : Int) : List (Key × V) :=
  [(Sum.inr ("large" : Str), .ref l), (Sum.inr ("cells" : Str), .ref c), (Sum.inr ("rest" : Str), .int r), (Sum.inr ("turn" : Str), .int t)]
theorem k13 : ¬ (Sum.inr ("large" : Str) : Key) = Sum.inr ("cells" : Str) := by decide +kernel
theorem k12 : ¬ (Sum.inr ("large" : Str) : Key) = Sum.inr ("rest" : Str) := by decide +kernel
theorem k22 : ¬ (Sum.inr ("cells" : Str) : Key) = Sum.inr ("rest" : Str) := by decide +kernel
theorem k32 : ¬ (Sum.inr ("turn" : Str) : Key) = Sum.inr ("rest" : Str) := by decide +kernel
theorem k14 : ¬ (Sum.inr ("large" : Str) : Key) = Sum.inr ("turn" : Str) := by decide +kernel
theorem k24 : ¬ (Sum.inr ("cells" : Str) : Key) = Sum.inr ("turn" : Str) := by decide +kernel
theorem k34 : ¬ (Sum.inr ("rest" : Str) : Key) = Sum.inr ("turn" : Str) := by decide +kernel
section
variable {l c : Addr} {r t r' t' : Int}
theorem dkv_nd : ((dkv l c r t).map (·.1)).Nodup := (by decide +kernel : ([Sum.inr ("large" : Str), Sum.inr ("cells" : Str), Sum.inr ("rest" : Str), Sum.inr ("turn" : Str)] : List Key).Nodup)
theorem v_large : valV (dkv l c r t) (Sum.inr ("large" : Str)) = some (.ref l) := valV_pos rfl
theorem v_cells : valV (dkv l c r t) (Sum.inr ("cells" : Str)) = some (.ref c) := by
  unfold dkv
  rw [valV_neg k13, valV_pos rfl]
theorem v_rest : valV (dkv l c r t) (Sum.inr ("rest" : Str)) = some (.int r) := by
  unfold dkv
  rw [valV_neg k12, valV_neg k22, valV_pos rfl]
theorem v_turn : valV (dkv l c r t) (Sum.inr ("turn" : Str)) = some (.int t) := by
  unfold dkv
  rw [valV_neg k14, valV_neg k24, valV_neg k34, valV_pos rfl]
theorem p_rest : putK (dkv l c r t) (Sum.inr ("rest" : Str)) (.int r') = dkv l c r' t := by
  have a : ((dkv l c r t).any fun kv => decide (kv.1 = Sum.inr ("rest" : Str))) = true := by
    rw [valV_any, v_rest] <;> rfl
  unfold putK
  rw [if_pos a]
  simp only [dkv, List.map_cons, List.map_nil, if_neg k12, if_neg k22, if_neg k32, if_pos trivial]
theorem p_turn : putK (dkv l c r t) (Sum.inr ("turn" : Str)) (.int t') = dkv l c r t' := by
  have a : ((dkv l c r t).any fun kv => decide (kv.1 = Sum.inr ("turn" : Str))) = true := by
    rw [valV_any, v_turn] <;> rfl
  unfold putK
  rw [if_pos a]
  simp only [dkv, List.map_cons, List.map_nil, if_neg k14, if_neg k24, if_neg k34, if_pos trivial]
end

/-- the source of draws stands at st: its large cells at l, the script's copy at c -/
structure DS (st l c : Addr) (cs : List Int) (B : Int) (H : Hp) : Prop where
  d : ∃ r t, 0 ≤ r ∧ 0 ≤ t ∧ t ≤ B ∧ H st = some (.dK (dkv l c r t))
  lg : ∃ zs : List Int, (∀ z ∈ zs, 0 ≤ z) ∧ H l = some (.lst (zs.map V.int))
  cl : H c = some (.lst (cs.map V.int))
  n1 : c ≠ l
theorem DS.ne {st l c : Addr} {cs : List Int} {B : Int} {H : Hp} (D : DS st l c cs B H) : c ≠ st ∧ l ≠ st := by
  obtain ⟨r, t, _, _, _, h⟩ := D.d
  obtain ⟨zs, _, h2⟩ := D.lg
  exact ⟨ne_of D.cl h (by intro z; cases z), ne_of h2 h (by intro z; cases z)⟩
/-- all but the source of draws is as it was -/
def Kp (st l : Addr) (H H' : Hp) : Prop := ∀ b o, H b = some o → b ≠ st → b ≠ l → H' b = some o
theorem Kp.refl {st l : Addr} {H : Hp} : Kp st l H H := fun _ _ h _ _ => h
theorem Kp.trans {st l : Addr} {H H1 H2 : Hp} (a : Kp st l H H1) (b : Kp st l H1 H2) : Kp st l H H2 :=
  fun x o h n1 n2 => b x o (a x o h n1 n2) n1 n2
theorem Kp.of {st l : Addr} {H H' : Hp} (a : Same H H') : Kp st l H H' := fun x o h _ _ => a x o h
theorem DS.keep {st l c : Addr} {cs : List Int} {B : Int} {H H' : Hp} (D : DS st l c cs B H) (e : Same H H') : DS st l c cs B H' := by
  obtain ⟨⟨r, t, hr, h0, h1, h⟩, ⟨zs, hz, h2⟩, h3, n⟩ := D
  exact ⟨⟨r, t, hr, h0, h1, e _ _ h⟩, ⟨zs, hz, e _ _ h2⟩, e _ _ h3, n⟩
theorem DS.mono {st l c : Addr} {cs : List Int} {B B' : Int} {H : Hp} (D : DS st l c cs B H) (h : B ≤ B') : DS st l c cs B' H := by
  obtain ⟨⟨r, t, hr, h0, h1, h⟩, h2, h3, n⟩ := D
  exact ⟨⟨r, t, hr, h0, by omega, h⟩, h2, h3, n⟩

def sp_mixed : Sp := fun vs H Q _ => ∃ (st l c : Addr) (cs : List Int) (B : Int), vs = [.ref st] ∧ B ≤ 35184372088832 ∧ DS st l c cs B H ∧
  ∀ (k : Int) (H' : Hp), 0 ≤ k → DS st l c cs (B + 1) H' → Kp st l H H' → Q (.int k) H'
def sp_take : Sp := fun vs H Q _ => ∃ (st l c : Addr) (cs : List Int) (B n : Int), vs = [.ref st, .int n] ∧ 0 < n ∧ n < 1073741824 ∧ B ≤ 35184372088832 ∧ DS st l c cs B H ∧
  ∀ (k : Int) (H' : Hp), 0 ≤ k → k < n → DS st l c cs (B + 1) H' → Kp st l H H' → Q (.int k) H'
/-- pick: an item of a list -/
def sp_pick : Sp := fun vs H Q _ => ∃ (st l c p : Addr) (cs : List Int) (B : Int) (xs : List V), vs = [.ref st, .ref p] ∧ B ≤ 35184372088832 ∧ DS st l c cs B H ∧ H p = some (.lst xs) ∧ xs ≠ [] ∧ xs.length < 1000000 ∧ p ≠ l ∧
  ∀ (i : Nat) (x : V) (H' : Hp), xs[i]? = some x → DS st l c cs (B + 1) H' → Kp st l H H' → Q x H'
def sp_begun (K : PySem.W.Frag) : Sp := fun vs H Q _ => ∃ (a : Addr) (cs : List Int), vs = [.ref a] ∧ SqL K H a (cs.map V.int) ∧ cs.length ≤ 63 ∧
  ∀ (st l c : Addr) (H' : Hp), H st = none → H l = none → H c = none → Same H H' → DS st l c cs 0 H' → Q (.ref st) H'

structure Tx (K : PySem.W.Frag) (mg : Str → Option Value) : Prop where
  b_bool : mg "bool" = none
  b_int : mg "int" = none
  b_isinstance : mg "isinstance" = none
  b_len : mg "len" = none
  b_list : mg "list" = none
  b_max : mg "max" = none
  b_min : mg "min" = none
  b_range : mg "range" = none
  b_repr : mg "repr" = none
  b_sum : mg "sum" = none
  b_super : mg "super" = none
  b_tuple : mg "tuple" = none
  c_ENDS : ∃ t, mg "ENDS" = some (.str "ends" t)
  c_MOST_BALANCE : ∃ t, mg "MOST_BALANCE" = some (.int 100000 t)
  c_MOST_LEAST : ∃ t, mg "MOST_LEAST" = some (.int 1000000 t)
  c_NEVER : ∃ t, mg "NEVER" = some (.str "never" t)
  c_THOUSAND : ∃ t, mg "THOUSAND" = some (.int 1000 t)
  g_CreditError : mg "CreditError" = some (.ref (He.ga K "CreditError"))
  g_BadNumber : mg "BadNumber" = some (.ref (He.ga K "BadNumber"))
  g_BadPlan : mg "BadPlan" = some (.ref (He.ga K "BadPlan"))
  g_Plan : mg "Plan" = some (.ref (He.ga K "Plan"))

local macro_rules | `(tactic| walk_at "val") => `(tactic| assumption)
local macro_rules | `(tactic| walk_at "rd1") => `(tactic| first
  | with_reducible refine r_seq ?_ | with_reducible refine r_next ?_ | with_reducible refine r_if ?_ | with_reducible refine r_asg ?_ | with_reducible refine r_gname ?_
  | with_reducible refine r_ret ?_ | with_reducible refine r_retN ?_ | with_reducible refine r_drop ?_ | with_reducible refine r_par ?_ | with_reducible refine r_kPar ?_
  | ((with_reducible refine' r_var ?hv ?_); (case hv => exact rfl)) | with_reducible refine r_c ?_ | with_reducible refine r_nil ?_ | with_reducible refine r_cons ?_
  | with_reducible refine r_fn ?_ | with_reducible refine r_cb ?_ | with_reducible refine r_op ?_ | with_reducible refine r_un ?_ | with_reducible refine r_I0 ?_
  | with_reducible refine r_pow5 ?_ | with_reducible refine r_pow6 ?_ | with_reducible refine r_pow7 ?_ | with_reducible refine r_pow9 ?_ | with_reducible refine r_pow18 ?_ | with_reducible refine r_pow20 ?_ | with_reducible refine r_pow30 ?_
  | with_reducible refine r_isN_non ?_ | with_reducible refine r_isN_ref ?_ | with_reducible refine r_isN_int ?_ | with_reducible refine r_isN_str ?_ | with_reducible refine r_isN_bl ?_ | with_reducible refine r_notN_non ?_ | with_reducible refine r_notN_ref ?_ | with_reducible refine r_notN_int ?_ | with_reducible refine r_notN_str ?_ | with_reducible refine r_notN_bl ?_
  | ((with_reducible refine r_I ?hc ?_); (case hc => walk_at "side")) | with_reducible refine r_U ?_
  | with_reducible refine r_eqI ?_ | with_reducible refine r_neI ?_ | with_reducible refine r_eqS ?_ | with_reducible refine r_neS ?_ | with_reducible refine r_eqB ?_ | with_reducible refine r_neB ?_
  | with_reducible refine r_chain ?_ | with_reducible refine r_test ?_ | with_reducible refine r_tB ?_ | with_reducible refine r_kTest ?_ | with_reducible refine r_not ?_
  | with_reducible refine r_and ?_ | with_reducible refine r_or ?_ | with_reducible refine r_tif ?_ | with_reducible refine r_andV ?_ | with_reducible refine r_orV ?_ | with_reducible refine r_notV ?_
  | with_reducible refine r_kAndV ?_ | with_reducible refine r_kOrV ?_ | with_reducible refine r_kNotV ?_
  | with_reducible refine w_T ?_ | with_reducible refine w_F ?_ | with_reducible refine w_NT ?_ | with_reducible refine w_NF ?_
  | with_reducible refine r_tup ?_ | with_reducible refine r_lst ?_ | with_reducible refine r_fld ?_ | with_reducible refine r_dget ?_ | with_reducible refine r_dput ?_ | with_reducible refine r_bm ?_
  | ((with_reducible refine' r_kDGetS ?h1 ?h2 ?_); (case h1 => assumption); (case h2 => walk_at "val"))
  | ((with_reducible refine' r_kBML ?h1 ?_); (case h1 => assumption))
  | with_reducible refine r_forL ?_ | with_reducible refine r_forR1 ?_ | with_reducible refine r_forR2 ?_ | with_reducible refine r_forT ?_ | with_reducible refine r_lcL ?_ | with_reducible refine r_lcR1 ?_
  | ((with_reducible refine r_kLcG ?hw ?_); (case hw => exact rfl)) | with_reducible refine r_kLcT ?_ | with_reducible refine r_yes ?_
  | with_reducible refine r_pnil ?_ | with_reducible refine r_pcons ?_
  | with_reducible refine r_fnK ?_ | ((with_reducible refine r_kFnK ?hl ?_); (case hl => exact rfl))
  | with_reducible refine r_isi_ii ?_ | with_reducible refine r_isi_ib ?_ | with_reducible refine r_isi_bi ?_ | with_reducible refine r_isi_bb ?_ | with_reducible refine r_isi_ss ?_ | with_reducible refine r_isi_is ?_ | with_reducible refine r_isi_it ?_
  | ((with_reducible refine' r_isi_tt ?h1 ?_); (case h1 => assumption))
  | with_reducible refine r_sfld ?_ | with_reducible refine r_gnil ?_ | with_reducible refine r_gcons ?_
  | ((with_reducible refine' r_gtup ?h1 ?h2 ?_); (case h1 => exact SqT.of (by assumption)); (case h2 => exact rfl))
  | with_reducible refine r_int1 ?_ | with_reducible refine r_int1b ?_ | with_reducible refine r_min2 ?_ | with_reducible refine r_max2 ?_)
local macro_rules | `(tactic| walk_at "rd") => `(tactic| repeat walk_at "rd1")
local macro_rules | `(tactic| walk_at "side") => `(tactic| first | assumption | exact Or.inr ⟨by decide, by decide⟩ | exact Or.inl ⟨by decide, by decide⟩ | (constructor <;> omega) | omega | decide | (refine Or.inl ⟨?_, ?_⟩ <;> omega) | (refine Or.inr ⟨?_, ?_⟩ <;> omega) | (refine ⟨?_, ?_, ?_⟩ <;> first | decide | omega))
local macro_rules | `(tactic| walk_at "val") => `(tactic| first | exact v_rest | exact v_turn | exact v_large | exact v_cells)
section
variable {P : Program} {w : World} {K : PySem.W.Frag} {mg : Str → Option Value} {base : Heap}
theorem primes_mem {x : V} (h : x ∈ [V.int 2147483629, V.int 2147483587, V.int 2147483579, V.int 2147483563, V.int 2147483549, V.int 2147483543]) : ∃ q : Int, x = .int q ∧ 2000000000 < q ∧ q < 2147483648 := by
  simp only [List.mem_cons, List.not_mem_nil, or_false] at h
  rcases h with h | h | h | h | h | h <;> exact ⟨_, h, by decide, by decide⟩
theorem ints_get {xs : List Int} {i : Nat} {x : V} (h : (xs.map V.int)[i]? = some x) : ∃ z, x = .int z ∧ xs[i]? = some z := by
  rw [List.getElem?_map] at h
  cases e : xs[i]? with
  | none => rw [e] at h; cases h
  | some z => rw [e] at h; exact ⟨z, (Option.some.inj h).symm, rfl⟩
theorem ok__law_mixed {f : Addr} {fd : FuncData} (T : Tx K mg) (F : FnP K "_law_mixed" s__law_mixed f fd) :
    FnOk P w K mg base CX0 1 f fd ["_law_state"] sp_mixed := by
  have sc : FnScope ["_law_state", "_law_found", "_law_prime", "_law_blend", "_law_cell"] ["_law_state"] (defScope s__law_mixed) := ⟨rfl, rfl, rfl, by decide +kernel, rfl, by decide +kernel, by decide +kernel⟩
  refine F.ok sc (by rintro vs H Q E ⟨_, _, _, _, _, rfl, _⟩; rfl) (fun cdv A outer s H vs Q E hr h => ⟨_, PSs.nox ((pss_cons (ps_dput (hu_of hr) (pv 0) pe_str (pe_op op_add (pe_dget (hu_of hr) (pv 0) pe_str (fun _ _ => rfl)) pe_int) rfl)
      (pss_cons (ps_set (i := 1) sc.nd rfl (by first | exact Or.inl rfl | exact Or.inr rfl) pe_int)
      (pss_cons (ps_for PassesOwn.never rfl (pi_listK (K := K) rfl (pe_lst (pa_cons pe_int (pa_cons pe_int (pa_cons pe_int (pa_cons pe_int (pa_cons pe_int (pa_cons pe_int pa_nil)))))))) (pg_name (i := 2) sc.nd rfl (by first | exact Or.inl rfl | exact Or.inr rfl)) (pss_cons (ps_set (i := 3) sc.nd rfl (by first | exact Or.inl rfl | exact Or.inr rfl) (pe_op op_add (pe_op op_mul pe_int (pe_dget (hu_of hr) (pv 0) pe_str (fun _ _ => rfl))) (pe_op op_fdiv (pv 2) pe_int)))
      (pss_cons (ps_for PassesOwn.never rfl (pi_listK (K := K) rfl (pe_dget (hu_of hr) (pv 0) pe_str (fun _ _ => rfl))) (pg_name (i := 4) sc.nd rfl (by first | exact Or.inl rfl | exact Or.inr rfl)) (pss_one (ps_set (i := 3) sc.nd rfl (by first | exact Or.inl rfl | exact Or.inr rfl) (pe_op op_mod (pe_callTy c_int1 (by rfl) T.b_int (by decide +kernel) (pa_cons (pe_op op_add (pe_op op_mul (pv 3) pe_int) (pv 4)) pa_nil)) (pv 2)))))
      (pss_one (ps_set (i := 1) sc.nd rfl (by first | exact Or.inl rfl | exact Or.inr rfl) (pe_op op_add (pe_op op_mul (pv 1) pe_int) (pe_op op_mod (pe_callTy c_int1 (by rfl) T.b_int (by decide +kernel) (pa_cons (pe_op op_pow (pv 3) pe_int) pa_nil)) (pv 2))))))))
      (pss_one (ps_ret (pv 1))))))), ?_⟩)
  obtain ⟨st, l, c, cs, B, rfl, hB, D, k⟩ := h
  obtain ⟨⟨r, t, hr0, ht0, htB, hd⟩, ⟨zs, hz, hl⟩, hc, n1⟩ := id D
  obtain ⟨n2, n3⟩ := D.ne
  walk_at "rd"
  refine r_kDPutS hd (show 4 < 1000000 by decide) fun H1 b1 hd1 => ?_
  rw [p_turn] at hd1
  have hc1 := b1 _ _ hc n2
  walk_at "rd"
  refine r_kLst fun p H2 np e2 hp => ?_
  replace hd1 := e2 _ _ hd1
  replace hc1 := e2 _ _ hc1
  refine r_kForL (xs := [V.int 2147483629, V.int 2147483587, V.int 2147483579, V.int 2147483563, V.int 2147483549, V.int 2147483543])
    (fun _ σ' H' => H2 = H' ∧ ∃ (z : Int) (x y u : Option V), σ' = [some (.ref st), some (.int z), x, y, u] ∧ 0 ≤ z) (SqL.of hp) ⟨rfl, _, _, _, _, rfl, Int.le_refl 0⟩ (fun _ σ' H' ⟨e, _⟩ => by rw [← e]; exact SqL.of hp) ?_ ?_
  · rintro i x σ' H' hx ⟨rfl, z, x2, x3, x4, rfl, hz0⟩
    obtain ⟨q, rfl, hq1, hq2⟩ := primes_mem (List.mem_of_getElem? hx)
    walk_at "rd"
    refine r_kForL (xs := cs.map V.int) (fun _ σ' H' => H2 = H' ∧ ∃ (y : Int) (u : Option V), σ' = [some (.ref st), some (.int z), some (.int q), some (.int y), u] ∧ -18446744073709551616 < y ∧ y < 18446744073709551616)
      (SqL.of hc1) ⟨rfl, _, _, rfl, by omega, by omega⟩ (fun _ σ' H' ⟨e, _⟩ => by rw [← e]; exact SqL.of hc1) ?_ ?_
    · rintro j x σ' H' hx ⟨rfl, y, u, rfl, hy1, hy2⟩
      obtain ⟨z', rfl, _⟩ := ints_get hx
      walk_at "rd"
      have h1 := Int.emod_nonneg (y * 48271 + z') (b := q) (by omega)
      have h2 := Int.emod_lt_of_pos (y * 48271 + z') (b := q) (by omega)
      exact ⟨rfl, _, _, rfl, by omega, by omega⟩
    · rintro σ' H' ⟨rfl, y, u, rfl, hy1, hy2⟩
      walk_at "rd"
      have h1 := Int.emod_nonneg (y ^ (5 : Int).toNat) (b := q) (by omega)
      exact ⟨rfl, _, _, _, _, rfl, by omega⟩
  · rintro σ' H' ⟨rfl, z, x2, x3, x4, rfl, hz0⟩
    walk_at "rd"
    refine k z H2 hz0 ⟨⟨r, t + 1, hr0, by omega, by omega, hd1⟩, ⟨zs, hz, e2 _ _ (b1 _ _ hl n3)⟩, hc1, n1⟩ fun b o hb m1 m2 => e2 _ _ (b1 _ _ hb m1)
theorem ok__law_take {f : Addr} {fd : FuncData} (T : Tx K mg) (F : FnP K "_law_take" s__law_take f fd)
    (d__law_mixed : Dn P w K mg base CX0 1 "_law_mixed" ["_law_state"] sp_mixed) :
    FnOk P w K mg base CX0 2 f fd ["_law_state", "_law_size"] sp_take := by
  have sc : FnScope ["_law_state", "_law_size", "_law_found"] ["_law_state", "_law_size"] (defScope s__law_take) := ⟨rfl, rfl, rfl, by decide +kernel, rfl, by decide +kernel, by decide +kernel⟩
  refine F.ok sc (by rintro vs H Q E ⟨_, _, _, _, _, _, rfl, _⟩; rfl) (fun cdv A outer s H vs Q E hr h => ⟨_, PSs.nox ((Evl.pss_cut (ps_if (pt_cmpR op_eq (pe_dget (hu_of hr) (pv 0) pe_str (fun _ _ => rfl)) pe_int (nomark _)) (pss_one (ps_dput (hu_of hr) (pv 0) pe_str (pe_ifExp (pt_cmpR (neDK (K := K) rfl hr.units) (pe_dget (hu_of hr) (pv 0) pe_str (fun _ _ => rfl)) (pe_lst pa_nil) (nomark _)) (pe_bmK (K := K) rfl PySem.F.plainAttrs_list PySem.F.slot_list_pop PySem.F.type_list_pop mt_popAt (pe_dget (hu_of hr) (pv 0) pe_str (fun _ _ => rfl)) (pa_cons pe_int pa_nil)) (pe_fn d__law_mixed (hr.mono (by decide)) pass0 (pa_cons (pv 0) pa_nil))) rfl)) pss_nil)
      (pss_cons (ps_set (i := 2) sc.nd rfl (by first | exact Or.inl rfl | exact Or.inr rfl) (pe_op op_mod (pe_callTy c_int1 (by rfl) T.b_int (by decide +kernel) (pa_cons (pe_dget (hu_of hr) (pv 0) pe_str (fun _ _ => rfl)) pa_nil)) (pv 1)))
      (pss_cons (ps_dput (hu_of hr) (pv 0) pe_str (pe_op op_fdiv (pe_dget (hu_of hr) (pv 0) pe_str (fun _ _ => rfl)) (pv 1)) rfl)
      (pss_one (ps_ret (pv 2))))))), ?_⟩)
  obtain ⟨st, l, c, cs, B, n, rfl, hn, hn2, hB, D, k⟩ := h
  refine r_cut (fun σ' H' => σ' = [some (.ref st), some (.int n), none] ∧ DS st l c cs (B + 1) H' ∧ Kp st l H H') ?_ ?_
  · obtain ⟨⟨r, t, hr0, ht0, htB, hd⟩, ⟨zs, hz, hl⟩, hc, n1⟩ := id D
    obtain ⟨n2, n3⟩ := D.ne
    walk_at "rd"
    refine w_dec (fun h0 => ?_) (fun h0 => ?_)
    · walk_at "rd"
      refine r_kLst fun p H1 np e1 hp => ?_
      refine r_neLI (as := zs) (bs := []) (SqL.of (e1 _ _ hl)) (SqL.of hp) ?_
      walk_at "rd"
      replace hd := e1 _ _ hd
      replace hl := e1 _ _ hl
      replace hc := e1 _ _ hc
      refine w_ndec (fun hn => ?_) (fun hn => ?_)
      · cases zs with
        | nil => exact absurd rfl hn
        | cons z zs =>
          walk_at "rd"
          refine r_popAt0 hl fun H2 b2 hl2 => ?_
          walk_at "rd"
          have hd2 := b2 _ _ hd n3.symm
          refine r_kDPutS hd2 (show 4 < 1000000 by decide) fun H3 b3 hd3 => ?_
          rw [p_rest] at hd3
          refine ⟨rfl, ⟨⟨z, t, hz z (List.mem_cons_self ..), ht0, by omega, hd3⟩, ⟨zs, fun y hy => hz y (List.mem_cons_of_mem _ hy), b3 _ _ hl2 n3⟩, b3 _ _ (b2 _ _ hc n1) n2, n1⟩, fun b o hb m1 m2 => b3 _ _ (b2 _ _ (e1 _ _ hb) m2) m1⟩
      · walk_at "rd"
        refine ⟨st, l, c, cs, B, rfl, hB, D.keep e1, fun m H2 hm D2 k2 => ?_⟩
        obtain ⟨⟨r2, t2, hr2, ht2, htB2, hd2⟩, ⟨zs2, hz2, hl2⟩, hc2, _⟩ := id D2
        walk_at "rd"
        refine r_kDPutS hd2 (show 4 < 1000000 by decide) fun H3 b3 hd3 => ?_
        rw [p_rest] at hd3
        exact ⟨rfl, ⟨⟨m, t2, hm, ht2, htB2, hd3⟩, ⟨zs2, hz2, b3 _ _ hl2 n3⟩, b3 _ _ hc2 n2, n1⟩, fun b o hb m1 m2 => b3 _ _ (k2 _ _ (e1 _ _ hb) m1 m2) m1⟩
    · walk_at "rd"
      exact ⟨rfl, D.mono (by omega), Kp.refl⟩
  · rintro σ' H' ⟨rfl, D2, k2⟩
    obtain ⟨⟨r, t, hr0, ht0, htB, hd⟩, ⟨zs, hz, hl⟩, hc, n1⟩ := id D2
    obtain ⟨n2, n3⟩ := D2.ne
    walk_at "rd"
    refine r_kDPutS hd (show 4 < 1000000 by decide) fun H3 b3 hd3 => ?_
    rw [p_rest] at hd3
    walk_at "rd"
    refine k (r % n) H3 (Int.emod_nonneg _ (by omega)) (Int.emod_lt_of_pos _ hn) ⟨⟨_, t, Int.ediv_nonneg hr0 (Int.le_of_lt hn), ht0, htB, hd3⟩, ⟨zs, hz, b3 _ _ hl n3⟩, b3 _ _ hc n2, n1⟩ fun b o hb m1 m2 => b3 _ _ (k2 _ _ hb m1 m2) m1
theorem ok__law_pick {f : Addr} {fd : FuncData} (T : Tx K mg) (F : FnP K "_law_pick" s__law_pick f fd)
    (d__law_take : Dn P w K mg base CX0 2 "_law_take" ["_law_state", "_law_size"] sp_take) :
    FnOk P w K mg base CX0 3 f fd ["_law_state", "_law_some"] sp_pick := by
  have sc : FnScope ["_law_state", "_law_some"] ["_law_state", "_law_some"] (defScope s__law_pick) := ⟨rfl, rfl, rfl, by decide +kernel, rfl, by decide +kernel, by decide +kernel⟩
  refine F.ok sc (by rintro vs H Q E ⟨_, _, _, _, _, _, _, rfl, _⟩; rfl) (fun cdv A outer s H vs Q E hr h => ⟨_, PSs.nox ((pss_one (ps_ret (pe_ix (ix_listK (K := K) rfl) (pv 1) (pe_fn d__law_take (hr.mono (by decide)) pass0 (pa_cons (pv 0) (pa_cons (pe_callB (c_lenK (K := K) rfl) (by rfl) T.b_len (by decide +kernel) (pa_cons (pv 1) pa_nil)) pa_nil))) (fun _ _ => rfl))))), ?_⟩)
  obtain ⟨st, l, c, p, cs, B, xs, rfl, hB, D, hp, hne, hlen, npl, k⟩ := h
  have h0 : 0 < xs.length := List.length_pos_iff.mpr hne
  have npst : p ≠ st := by
    obtain ⟨r, t, _, _, _, h⟩ := D.d
    exact ne_of hp h (by intro z; cases z)
  walk_at "rd"
  refine r_lenL (SqL.of hp) ?_
  walk_at "rd"
  refine ⟨st, l, c, cs, B, _, rfl, by omega, by omega, hB, D, fun m H1 hm hm2 D1 k1 => ?_⟩
  have hi : m.toNat < xs.length := by omega
  refine r_ixL (SqL.of (k1 _ _ hp npst npl)) (at_get (n := m.toNat) (by omega) (List.getElem?_eq_getElem hi)) ?_
  exact k m.toNat _ H1 (List.getElem?_eq_getElem hi) D1 k1
theorem ok__law_begun {f : Addr} {fd : FuncData} (T : Tx K mg) (F : FnP K "_law_begun" s__law_begun f fd) :
    FnOk P w K mg base CX0 1 f fd ["_law_script"] (sp_begun K) := by
  have sc : FnScope ["_law_script", "_law_large", "_law_cell"] ["_law_script"] (defScope s__law_begun) := ⟨rfl, rfl, rfl, by decide +kernel, rfl, by decide +kernel, by decide +kernel⟩
  refine F.ok sc (by rintro vs H Q E ⟨_, _, rfl, _⟩; rfl) (fun cdv A outer s H vs Q E hr h => ⟨_, PSs.nox ((pss_cons (ps_setLc (i := 1) (own := [("_law_cell", 2)]) (by rfl) sc.nd rfl rfl (sw_true rfl rfl rfl (by decide +kernel)) (pi_listK (K := K) rfl (pv 0)) (blkOk_by (own := [("_law_cell", 2)]) (N := ["_law_script", "_law_large", "_law_cell"]) (sc := defScope s__law_begun) (by decide +kernel)) (fun _ _ _ _ _ => (pg_name (i := 2) sc.nd rfl (by first | exact Or.inl rfl | exact Or.inr rfl))) (fun _ _ _ _ _ => (pts_one (pt_cmpR op_ge (pv 2) (pe_op op_pow pe_int pe_int) (nomark _)))) (fun _ _ _ _ _ => (pe_op op_sub (pv 2) (pe_op op_pow pe_int pe_int))))
      (pss_one (ps_ret (pe_disp (pps_cons pe_str (pv 1) (pps_cons pe_str (pe_callTy (c_listK (K := K) rfl) (by rfl) T.b_list (by decide +kernel) (pa_cons (pv 0) pa_nil)) (pps_cons pe_str pe_int (pps_cons pe_str pe_int pps_nil)))) (by rfl) (by rfl) (fun z => by cases z) (by decide)))))), ?_⟩)
  obtain ⟨a, cs, rfl, hS, hlen, k⟩ := h
  walk_at "rd"
  refine r_kLcL (xs := cs.map V.int) (fun Da i H' => Same H H' ∧ ∃ zs : List Int, (∀ z ∈ zs, 0 ≤ z) ∧ zs.length ≤ i ∧ H' Da = some (.lst (zs.map V.int))) hS (fun Da H' hD e h => ⟨e, [], (fun z hz => nomatch hz), Nat.le_refl _, h⟩)
    (fun Da i H' ⟨e, _⟩ => e.seq hS) ?_ ?_
  · rintro Da i x H' hD hx ⟨e, zs, hz, hl, hDa⟩
    obtain ⟨z, rfl, hz2⟩ := ints_get hx
    have hi : i < cs.length := (List.getElem?_eq_some_iff.mp hz2).1
    walk_at "rd"
    refine w_dec (fun h1 => ?_) (fun h1 => ?_)
    · walk_at "rd"
      refine r_kLcE hDa (by rw [List.length_map]; omega) fun H2 b2 h2 => ⟨Same.mut e b2 hD, zs ++ [z - 1000000000000000000], ?_, by rw [List.length_append]; show zs.length + 1 ≤ i + 1; omega, by rw [List.map_append]; exact h2⟩
      intro y hy
      rcases List.mem_append.mp hy with hy | hy
      · exact hz y hy
      · rw [List.mem_singleton.mp hy]
        omega
    · exact ⟨e, zs, hz, by omega, hDa⟩
  · rintro Da H1 hD ⟨e1, zs, hz, hl, hDa⟩
    walk_at "rd"
    refine r_disp fun p H2 np e2 hp => ?_
    walk_at "rd"
    refine r_listL (e2.seq (e1.seq hS)) fun q H3 nq e3 hq => ?_
    walk_at "rd"
    refine r_kDisp (dkv Da q 0 0) (e3 _ _ hp) rfl (show 4 ≤ 15 by decide) dkv_nd fun H4 b4 h4 => ?_
    have hDa3 := e3 _ _ (e2 _ _ hDa)
    have npq : q ≠ p := ne_of hq (e3 _ _ hp) (by intro z; cases z)
    have npD : Da ≠ p := ne_of hDa3 (e3 _ _ hp) (by intro z; cases z)
    have nqD : q ≠ Da := (ne_of_none (e2 _ _ hDa) nq).symm
    have s03 : Same H H3 := (e1.trans e2).trans e3
    have np0 : H p = none := e1.free np
    refine k p Da q H4 np0 hD ((e1.trans e2).free nq) (Same.mut s03 b4 np0) ⟨⟨0, 0, Int.le_refl _, Int.le_refl _, Int.le_refl _, h4⟩, ⟨zs, hz, b4 _ _ hDa3 npD⟩, b4 _ _ hq npq, nqD⟩
end
end Wp
set_option linter.all false
/-! Plans of least payments: what a month does, rows of balances (plain Lean). -/
namespace Wp
structure Pl where
  r : Int
  s : Int
  m : Int
  b : Bool
structure Pl.Ok (P : Pl) : Prop where
  r0 : 0 ≤ P.r
  r1 : P.r ≤ 1000
  s0 : 0 ≤ P.s
  s1 : P.s ≤ 1000
  m0 : 1 ≤ P.m
  m1 : P.m ≤ 1000000
namespace Pl
def intr (P : Pl) (x : Int) : Int := x * P.r / 1000
def owed (P : Pl) (x : Int) : Int := x + P.intr x
def want (P : Pl) (x : Int) : Int := if P.b then P.intr x + x * P.s / 1000 else P.owed x * P.s / 1000
def pay (P : Pl) (e x : Int) : Int := if P.owed x ≤ P.m then P.owed x else min (P.owed x) (max P.m (P.want x) + e)
def nxt (P : Pl) (e x : Int) : Int := if P.owed x ≤ P.m then 0 else P.owed x - min (P.owed x) (max P.m (P.want x) + e)
theorem nxt_nonneg (P : Pl) (e x : Int) : 0 ≤ P.nxt e x := by
  unfold nxt
  split <;> omega
theorem nxt_pay (P : Pl) (e x : Int) : P.nxt e x = P.owed x - P.pay e x := by
  unfold nxt pay
  split <;> omega
/-- the balances from x on, at most n months -/
def rowF (P : Pl) (e : Int) : Nat → Int → List Int
  | 0, x => [x]
  | n + 1, x => if 0 < x ∧ P.nxt e x < x then x :: rowF P e n (P.nxt e x) else [x]
def row (P : Pl) (e x : Int) : List Int := P.rowF e x.toNat x
variable {P : Pl} {e : Int}
theorem rowF_same : ∀ (n m : Nat) (x : Int), x.toNat ≤ n → x.toNat ≤ m → P.rowF e n x = P.rowF e m x
  | 0, 0, x, _, _ => rfl
  | 0, m + 1, x, h, _ => by
    have : ¬ (0 < x ∧ P.nxt e x < x) := by omega
    simp only [rowF, if_neg this]
  | n + 1, 0, x, _, h => by
    have : ¬ (0 < x ∧ P.nxt e x < x) := by omega
    simp only [rowF, if_neg this]
  | n + 1, m + 1, x, h1, h2 => by
    simp only [rowF]
    split
    · rename_i h
      have h0 := P.nxt_nonneg e x
      rw [rowF_same n m (P.nxt e x) (by omega) (by omega)]
    · rfl
theorem rowF_row {n : Nat} {x : Int} (h : x.toNat ≤ n) : P.rowF e n x = P.row e x := rowF_same n x.toNat x h (Nat.le_refl _)
theorem row_eq (x : Int) : P.row e x = if 0 < x ∧ P.nxt e x < x then x :: P.row e (P.nxt e x) else [x] := by
  rw [← rowF_row (n := x.toNat + 1) (by omega)]
  simp only [rowF]
  split
  · rename_i h
    have h0 := P.nxt_nonneg e x
    rw [rowF_row (by omega)]
  · rfl
theorem row_step {x : Int} (h1 : 0 < x) (h2 : P.nxt e x < x) : P.row e x = x :: P.row e (P.nxt e x) := by
  rw [row_eq, if_pos ⟨h1, h2⟩]
theorem row_end {x : Int} (h : ¬ (0 < x ∧ P.nxt e x < x)) : P.row e x = [x] := by
  rw [row_eq, if_neg h]
theorem rowF_len : ∀ (n : Nat) (x : Int), (P.rowF e n x).length ≤ n + 1
  | 0, x => Nat.le_refl _
  | n + 1, x => by
    simp only [rowF]
    split
    · have := rowF_len n (P.nxt e x)
      simp only [List.length_cons]
      omega
    · simp
theorem row_len (x : Int) : (P.row e x).length ≤ x.toNat + 1 := rowF_len _ _
theorem rowF_ne : ∀ (n : Nat) (x : Int), P.rowF e n x ≠ []
  | 0, x => by simp [rowF]
  | n + 1, x => by
    simp only [rowF]
    split <;> simp
theorem row_ne (x : Int) : P.row e x ≠ [] := rowF_ne _ _
theorem rowF_mem : ∀ (n : Nat) (x y : Int), 0 ≤ x → y ∈ P.rowF e n x → 0 ≤ y ∧ y ≤ x
  | 0, x, y, h0, h => by
    simp only [rowF, List.mem_singleton] at h
    omega
  | n + 1, x, y, h0, h => by
    simp only [rowF] at h
    split at h
    · rename_i hc
      rcases List.mem_cons.mp h with h | h
      · omega
      · have := rowF_mem n (P.nxt e x) y (P.nxt_nonneg e x) h
        omega
    · have := List.mem_singleton.mp h
      omega
theorem row_mem {x y : Int} (h0 : 0 ≤ x) (h : y ∈ P.row e x) : 0 ≤ y ∧ y ≤ x := rowF_mem _ _ _ h0 h
/-- where a row ends: at 0, or at a balance that is not made less -/
theorem row_last : ∀ (n : Nat) (x : Int), x.toNat ≤ n → 0 ≤ x → ∃ pre z, P.row e x = pre ++ [z] ∧ 0 ≤ z ∧ z ≤ x ∧ ¬ (0 < z ∧ P.nxt e z < z)
  | 0, x, h, h0 => ⟨[], x, row_end (by omega), h0, Int.le_refl _, by omega⟩
  | n + 1, x, h, h0 => by
    by_cases hc : 0 < x ∧ P.nxt e x < x
    · have hn := P.nxt_nonneg e x
      obtain ⟨pre, z, h1, h2, h3, h4⟩ := row_last n (P.nxt e x) (by omega) hn
      exact ⟨x :: pre, z, by rw [row_step hc.1 hc.2, h1]; rfl, h2, by omega, h4⟩
    · exact ⟨[], x, row_end hc, h0, Int.le_refl _, hc⟩
def lastOf (l : List Int) : Int := l.getLast?.getD 0
theorem lastOf_app (pre : List Int) (z : Int) : lastOf (pre ++ [z]) = z := by
  simp [lastOf]
/-- what is told of a balance: None, or its months and all the interest -/
def endR (P : Pl) (x : Int) : Option (Int × Int) :=
  if lastOf (P.row 0 x) > 0 then none else some (((P.row 0 x).length : Int) - 1, ((P.row 0 x).map P.intr).sum)
/-- no interest, no share: a fixed payment a month -/
theorem flat_nxt {m x : Int} {b : Bool} (h0 : 0 ≤ x) (hm : 1 ≤ m) : (Pl.mk 0 0 m b).nxt 0 x = if x ≤ m then 0 else x - m := by
  have e1 : (Pl.mk 0 0 m b).intr x = 0 := by simp [intr]
  have e2 : (Pl.mk 0 0 m b).owed x = x := by simp [owed, e1]
  have e3 : (Pl.mk 0 0 m b).want x = 0 := by
    unfold want
    split <;> simp [e1, e2]
  unfold nxt
  rw [e2, e3]
  show (if x ≤ m then 0 else x - min x (max m 0 + 0)) = _
  split <;> omega
theorem flat_row {m : Int} {b : Bool} (hm : 1 ≤ m) : ∀ (k : Nat) (x : Int), x.toNat ≤ k → 0 ≤ x → (Pl.mk 0 0 m b).row 0 x = ((List.range ((x + m - 1) / m).toNat).map fun i : Nat => x + (i : Int) * (0 - m)) ++ [0]
  | k, x, hk, h0 => by
    by_cases hz : x = 0
    · subst hz
      rw [row_end (by omega)]
      have e : ((0 : Int) + m - 1) / m = 0 := Int.ediv_eq_zero_of_lt (by omega) (by omega)
      rw [e]
      rfl
    · have hn := flat_nxt (b := b) h0 hm
      have hlt : (Pl.mk 0 0 m b).nxt 0 x < x := by
        rw [hn]
        split <;> omega
      rw [row_step (by omega) hlt, hn]
      by_cases hx : x ≤ m
      · rw [if_pos hx, row_end (by omega)]
        have e : (x + m - 1) / m = 1 := by
          have e2 : x + m - 1 = (x - 1) + 1 * m := by omega
          rw [e2, Int.add_mul_ediv_right _ _ (by omega), Int.ediv_eq_zero_of_lt (by omega) (by omega)]
          rfl
        rw [e]
        simp [List.range_succ]
      · rw [if_neg hx]
        cases k with
        | zero => omega
        | succ k =>
          rw [flat_row hm k (x - m) (by omega) (by omega)]
          have e2 : x + m - 1 = (x - m + m - 1) + 1 * m := by omega
          have e : (x + m - 1) / m = (x - m + m - 1) / m + 1 := by rw [e2, Int.add_mul_ediv_right _ _ (by omega)]
          have hq : 0 ≤ (x - m + m - 1) / m := Int.ediv_nonneg (by omega) (by omega)
          have e3 : ((x - m + m - 1) / m + 1).toNat = ((x - m + m - 1) / m).toNat + 1 := by omega
          rw [e, e3, List.range_succ_eq_map, List.map_cons, List.map_map, List.cons_append]
          congr 1
          · simp
          · congr 1
            apply List.map_congr_left
            intro i _
            show x - m + (i : Int) * (0 - m) = x + ((i + 1 : Nat) : Int) * (0 - m)
            rw [Int.natCast_add, Int.add_mul]
            simp only [Int.cast_ofNat_Int]
            omega
theorem flat_end {m x : Int} {b : Bool} (hm : 1 ≤ m) (h0 : 0 ≤ x) : (Pl.mk 0 0 m b).endR x = some ((x + m - 1) / m, 0) := by
  have hr := flat_row (b := b) hm x.toNat x (Nat.le_refl _) h0
  have hq : 0 ≤ (x + m - 1) / m := Int.ediv_nonneg (by omega) (by omega)
  have hi : ∀ l : List Int, (l.map (Pl.mk 0 0 m b).intr).sum = 0 := by
    intro l
    induction l with
    | nil => rfl
    | cons a r ih => rw [List.map_cons, List.sum_cons, ih]; simp [intr]
  unfold endR
  rw [hr, lastOf_app, if_neg (by omega), hi]
  simp only [List.length_append, List.length_map, List.length_range, List.length_cons, List.length_nil]
  congr 2
  omega
/-- bounds of what is told -/
theorem intr_bd {P : Pl} (ok : P.Ok) {x : Int} (h0 : 0 ≤ x) : 0 ≤ P.intr x ∧ P.intr x ≤ x := by
  have h1 : 0 ≤ x * P.r := Int.mul_nonneg h0 ok.r0
  have h2 : x * P.r ≤ x * 1000 := Int.mul_le_mul_of_nonneg_left ok.r1 h0
  unfold intr
  omega
theorem sum_bd {P : Pl} (ok : P.Ok) {m : Int} : ∀ l : List Int, (∀ y ∈ l, 0 ≤ y ∧ y ≤ m) → 0 ≤ (l.map P.intr).sum ∧ (l.map P.intr).sum ≤ m * (l.length : Int)
  | [], _ => by simp
  | y :: r, h => by
    have ⟨h1, h2⟩ := h y (List.mem_cons_self ..)
    have ⟨h3, h4⟩ := intr_bd ok h1
    have ⟨h5, h6⟩ := sum_bd ok r fun z hz => h z (List.mem_cons_of_mem _ hz)
    rw [List.map_cons, List.sum_cons, List.length_cons]
    have e : m * ((r.length + 1 : Nat) : Int) = m * (r.length : Int) + m := by
      rw [Int.natCast_add, Int.mul_add]
      simp
    rw [e]
    omega
end Pl
end Wp
set_option Elab.async false
set_option linter.all false
set_option maxRecDepth 100000
set_option maxHeartbeats 4000000
namespace Wp
open PySem PySem.Spec PyProof.Rows L2
abbrev s_is_number : Stmt := topS 5
abbrev s_is_number_in : Stmt := topS 6
abbrev s_Plan___init__ : Stmt := inClass (topS 13) 0
abbrev s_need_plan : Stmt := topS 14
abbrev s_need_balance : Stmt := topS 15
abbrev s_month_with : Stmt := topS 16
abbrev s_row_with : Stmt := topS 17
abbrev s_ending : Stmt := topS 18
abbrev s_evidence : Stmt := topS 19
local macro_rules | `(tactic| walk_at "val") => `(tactic| assumption)
local macro_rules | `(tactic| walk_at "rd1") => `(tactic| first
  | with_reducible refine r_seq ?_ | with_reducible refine r_next ?_ | with_reducible refine r_if ?_ | with_reducible refine r_asg ?_ | with_reducible refine r_gname ?_
  | with_reducible refine r_ret ?_ | with_reducible refine r_retN ?_ | with_reducible refine r_drop ?_ | with_reducible refine r_par ?_ | with_reducible refine r_kPar ?_
  | ((with_reducible refine' r_var ?hv ?_); (case hv => exact rfl)) | with_reducible refine r_c ?_ | with_reducible refine r_nil ?_ | with_reducible refine r_cons ?_
  | with_reducible refine r_fn ?_ | with_reducible refine r_cb ?_ | with_reducible refine r_op ?_ | with_reducible refine r_un ?_ | with_reducible refine r_I0 ?_
  | with_reducible refine r_pow5 ?_ | with_reducible refine r_pow6 ?_ | with_reducible refine r_pow7 ?_ | with_reducible refine r_pow9 ?_ | with_reducible refine r_pow18 ?_ | with_reducible refine r_pow20 ?_ | with_reducible refine r_pow30 ?_
  | with_reducible refine r_isN_non ?_ | with_reducible refine r_isN_ref ?_ | with_reducible refine r_isN_int ?_ | with_reducible refine r_isN_str ?_ | with_reducible refine r_isN_bl ?_ | with_reducible refine r_notN_non ?_ | with_reducible refine r_notN_ref ?_ | with_reducible refine r_notN_int ?_ | with_reducible refine r_notN_str ?_ | with_reducible refine r_notN_bl ?_
  | ((with_reducible refine r_I ?hc ?_); (case hc => walk_at "side")) | with_reducible refine r_U ?_
  | with_reducible refine r_eqI ?_ | with_reducible refine r_neI ?_ | with_reducible refine r_eqS ?_ | with_reducible refine r_neS ?_ | with_reducible refine r_eqB ?_ | with_reducible refine r_neB ?_
  | with_reducible refine r_chain ?_ | with_reducible refine r_test ?_ | with_reducible refine r_tB ?_ | with_reducible refine r_kTest ?_ | with_reducible refine r_not ?_
  | with_reducible refine r_and ?_ | with_reducible refine r_or ?_ | with_reducible refine r_tif ?_ | with_reducible refine r_andV ?_ | with_reducible refine r_orV ?_ | with_reducible refine r_notV ?_
  | with_reducible refine r_kAndV ?_ | with_reducible refine r_kOrV ?_ | with_reducible refine r_kNotV ?_
  | with_reducible refine w_T ?_ | with_reducible refine w_F ?_ | with_reducible refine w_NT ?_ | with_reducible refine w_NF ?_
  | with_reducible refine r_tup ?_ | with_reducible refine r_lst ?_ | with_reducible refine r_fld ?_ | with_reducible refine r_dget ?_ | with_reducible refine r_dput ?_ | with_reducible refine r_bm ?_
  | ((with_reducible refine' r_kDGetS ?h1 ?h2 ?_); (case h1 => assumption); (case h2 => walk_at "val"))
  | ((with_reducible refine' r_kBML ?h1 ?_); (case h1 => assumption))
  | with_reducible refine r_forL ?_ | with_reducible refine r_forR1 ?_ | with_reducible refine r_forR2 ?_ | with_reducible refine r_forT ?_ | with_reducible refine r_lcL ?_ | with_reducible refine r_lcR1 ?_
  | ((with_reducible refine r_kLcG ?hw ?_); (case hw => exact rfl)) | with_reducible refine r_kLcT ?_ | with_reducible refine r_yes ?_
  | with_reducible refine r_pnil ?_ | with_reducible refine r_pcons ?_
  | with_reducible refine r_fnK ?_ | ((with_reducible refine r_kFnK ?hl ?_); (case hl => exact rfl))
  | with_reducible refine r_isi_ii ?_ | with_reducible refine r_isi_ib ?_ | with_reducible refine r_isi_bi ?_ | with_reducible refine r_isi_bb ?_ | with_reducible refine r_isi_ss ?_ | with_reducible refine r_isi_is ?_ | with_reducible refine r_isi_it ?_
  | ((with_reducible refine' r_isi_tt ?h1 ?_); (case h1 => assumption))
  | with_reducible refine r_sfld ?_ | with_reducible refine r_gnil ?_ | with_reducible refine r_gcons ?_
  | ((with_reducible refine' r_gtup ?h1 ?h2 ?_); (case h1 => exact SqT.of (by assumption)); (case h2 => exact rfl))
  | with_reducible refine r_int1 ?_ | with_reducible refine r_int1b ?_ | with_reducible refine r_min2 ?_ | with_reducible refine r_max2 ?_)
local macro_rules | `(tactic| walk_at "rd") => `(tactic| repeat walk_at "rd1")
local macro_rules | `(tactic| walk_at "side") => `(tactic| first | assumption | exact Or.inr ⟨by decide, by decide⟩ | exact Or.inl ⟨by decide, by decide⟩ | (constructor <;> omega) | omega | decide | (refine Or.inl ⟨?_, ?_⟩ <;> omega) | (refine Or.inr ⟨?_, ?_⟩ <;> omega) | (refine ⟨?_, ?_, ?_⟩ <;> first | decide | omega))
def sp_is_number (K : PySem.W.Frag) : Sp := fun vs H Q _ => ∃ (x : V) (o : Option Int), vs = [x] ∧ NumV K H x o ∧ Q (.bl o.isSome) H
def sp_is_number_in (K : PySem.W.Frag) : Sp := fun vs H Q _ => ∃ (x : V) (o : Option Int) (lo hi : Int), vs = [x, .int lo, .int hi] ∧ NumV K H x o ∧ Q (.bl (inB o lo hi)) H
theorem u_in {K : PySem.W.Frag} {H : Hp} {Q : VK} {E : XK} {i lo hi : Int} (h : lo ≤ i ∧ i ≤ hi) (q : Q (.bl true) H) : sp_is_number_in K [.int i, .int lo, .int hi] H Q E := ⟨_, _, _, _, rfl, .int i, by rw [inB_yes h]; exact q⟩
def fPlan (t : Addr) : List (Str × V) := [("l_parts", .ref t)]
/-- a plan stands at p -/
def PlanAt (C : Addr) (H : Hp) (p : Addr) (M : Pl) : Prop := ∃ dx t, H p = some (.ins C dx (fPlan t)) ∧ H t = some (.tup [.int M.r, .int M.s, .int M.m, .bl M.b])
theorem PlanAt.keep {C : Addr} {H H' : Hp} {p : Addr} {M : Pl} (h : PlanAt C H p M) (e : Same H H') : PlanAt C H' p M := by
  obtain ⟨dx, t, h1, h2⟩ := h
  exact ⟨dx, t, e _ _ h1, e _ _ h2⟩
theorem PlanAt.kp {C st l : Addr} {H H' : Hp} {p : Addr} {M : Pl} {kvs : List (Key × V)} {xs : List V} (h : PlanAt C H p M) (e : Kp st l H H') (h1 : H st = some (.dK kvs)) (h2 : H l = some (.lst xs)) : PlanAt C H' p M := by
  obtain ⟨dx, t, a, b⟩ := h
  exact ⟨dx, t, e _ _ a (ne_of a h1 (by intro z; cases z)) (ne_of a h2 (by intro z; cases z)), e _ _ b (ne_of b h1 (by intro z; cases z)) (ne_of b h2 (by intro z; cases z))⟩
def sp_need_plan (C : Addr) : Sp := fun vs H Q _ => ∃ (p : Addr) (M : Pl), vs = [.ref p] ∧ PlanAt C H p M ∧ Q .non H
def sp_need_balance (C : Addr) : Sp := fun vs H Q _ => ∃ (p : Addr) (M : Pl) (x : Int), vs = [.ref p, .int x] ∧ PlanAt C H p M ∧ 0 ≤ x ∧ x ≤ 100000 ∧ Q .non H
def sp_Plan_init (C : Addr) : Sp := fun vs H Q _ => ∃ (p dx : Addr) (M : Pl), vs = [.ref p, .int M.r, .int M.s, .int M.m, .bl M.b] ∧ M.Ok ∧ H p = some (.ins C dx []) ∧
  ∀ H', But p H H' → PlanAt C H' p M → Q .non H'
def sp_Plan (C : Addr) : Sp := fun vs H Q _ => ∃ (M : Pl), vs = [.int M.r, .int M.s, .int M.m, .bl M.b] ∧ M.Ok ∧
  ∀ p H', H p = none → Same H H' → PlanAt C H' p M → Q (.ref p) H'
def sp_month_with (C : Addr) : Sp := fun vs H Q _ => ∃ (p : Addr) (M : Pl) (x e : Int), vs = [.ref p, .int x, .int e] ∧ M.Ok ∧ PlanAt C H p M ∧
  ∀ t H', H t = none → Same H H' → H' t = some (.tup [.int (M.intr x), .int (M.pay e x), .int (M.nxt e x)]) → Q (.ref t) H'
def sp_row_with (C : Addr) : Sp := fun vs H Q _ => ∃ (p : Addr) (M : Pl) (x e : Int), vs = [.ref p, .int x, .int e] ∧ M.Ok ∧ PlanAt C H p M ∧ 0 ≤ x ∧ x ≤ 100000 ∧
  ∀ t H', H t = none → Same H H' → H' t = some (.lst ((M.row e x).map V.int)) → Q (.ref t) H'

section
variable {P : Program} {w : World} {K : PySem.W.Frag} {mg : Str → Option Value} {base : Heap}
theorem ok_is_number {f : Addr} {fd : FuncData} (T : Tx K mg) (F : FnP K "is_number" s_is_number f fd) : FnOk P w K mg base CX0 1 f fd ["value"] (sp_is_number K) := by
  have sc : FnScope ["value"] ["value"] (defScope s_is_number) := ⟨rfl, rfl, rfl, by decide +kernel, rfl, by decide +kernel, by decide +kernel⟩
  refine F.ok sc (by rintro vs H Q E ⟨_, _, rfl, _⟩; rfl) (fun cdv A outer s H vs Q E hr h => ⟨_, PSs.nox ((pss_one (ps_ret (pe_and (pe_callB (c_isiK (K := K) rfl) (by rfl) T.b_isinstance (by decide +kernel) (pa_cons (pv 0) (pa_cons (pe_bltn (v := .ty "int") (by rfl) T.b_int (by decide +kernel) rfl) pa_nil))) (pe_one (pe_not (pe_callB (c_isiK (K := K) rfl) (by rfl) T.b_isinstance (by decide +kernel) (pa_cons (pv 0) (pa_cons (pe_bltn (v := .ty "bool") (by rfl) T.b_bool (by decide +kernel) rfl) pa_nil))))))))), ?_⟩)
  obtain ⟨x, o, rfl, hx, q⟩ := h
  walk_at "rd"
  cases hx with
  | int i =>
    walk_at "rd"
    exact q
  | @no _ t b1 b2 ht h1 h2 h3 =>
    refine r_isi (.ty "int") ht h1 ?_
    walk_at "rd"
    cases b1 with
    | false =>
      walk_at "rd"
      exact q
    | true =>
      walk_at "rd"
      refine r_isi (.ty "bool") ht h2 ?_
      walk_at "rd"
      have e : (!b2) = false := h3
      rw [e]
      exact q
theorem ok_is_number_in {f : Addr} {fd : FuncData} (T : Tx K mg) (F : FnP K "is_number_in" s_is_number_in f fd) (d_is_number : Dn P w K mg base CX0 1 "is_number" ["value"] (sp_is_number K)) :
    FnOk P w K mg base CX0 2 f fd ["value", "least", "most"] (sp_is_number_in K) := by
  have sc : FnScope ["value", "least", "most"] ["value", "least", "most"] (defScope s_is_number_in) := ⟨rfl, rfl, rfl, by decide +kernel, rfl, by decide +kernel, by decide +kernel⟩
  refine F.ok sc (by rintro vs H Q E ⟨_, _, _, _, rfl, _⟩; rfl) (fun cdv A outer s H vs Q E hr h => ⟨_, PSs.nox ((pss_one (ps_ret (pe_and (pe_fn d_is_number (hr.mono (by decide)) pass0 (pa_cons (pv 0) pa_nil)) (pe_one (pe_chain op_le op_le (pv 1) (pv 0) (pv 2))))))), ?_⟩)
  obtain ⟨x, o, lo, hi, rfl, hx, q⟩ := h
  walk_at "rd"
  refine ⟨x, o, rfl, hx, ?_⟩
  walk_at "rd"
  cases hx with
  | int i =>
    refine w_yes rfl ?_
    walk_at "rd"
    refine r_kChain (fun h1 => ?_) (fun h1 => ?_)
    · walk_at "rd"
      have e : inB (some i) lo hi = decide (i ≤ hi) := by
        show (decide (lo ≤ i) && decide (i ≤ hi)) = _
        rw [h1]
        rfl
      rw [← e]
      exact q
    · have e : inB (some i) lo hi = false := by
        show (decide (lo ≤ i) && decide (i ≤ hi)) = _
        rw [h1]
        rfl
      rw [← e]
      exact q
  | no ht h1 h2 h3 =>
    walk_at "rd"
    exact q
theorem ok_Plan_init {f C : Addr} {fd : FuncData} (T : Tx K mg) (cl : Cls K C) (na : NoAttr K C "l_parts") (F : FunD K "__init__" "Plan.__init__" (defArgs s_Plan___init__) (defBody s_Plan___init__) (defScope s_Plan___init__) [.bl false] [] f fd)
    (d_is_number_in : Dn P w K mg base CX0 2 "is_number_in" ["value", "least", "most"] (sp_is_number_in K)) :
    FnOk P w K mg base CX0 3 f fd ["self", "rate", "share", "least", "plus"] (sp_Plan_init C) := by
  have sc : FnScope ["self", "rate", "share", "least", "plus"] ["self", "rate", "share", "least", "plus"] (defScope s_Plan___init__) := ⟨rfl, rfl, rfl, by decide +kernel, rfl, by decide +kernel, by decide +kernel⟩
  refine F.ok sc (by rintro vs H Q E ⟨_, _, _, rfl, _⟩; rfl) (fun cdv A outer s H vs Q E hr h => ⟨_, PSs.nox ((pss_cons (ps_if (pt_not (pt_val (pe_fn d_is_number_in (hr.mono (by decide)) pass0 (pa_cons (pv 1) (pa_cons pe_int (pa_cons (pe_glob (v := .int 1000) (by rfl) T.c_THOUSAND.choose_spec ⟨_, rfl⟩) pa_nil)))))) (pss_one ps_never) pss_nil)
      (pss_cons (ps_if (pt_not (pt_val (pe_fn d_is_number_in (hr.mono (by decide)) pass0 (pa_cons (pv 2) (pa_cons pe_int (pa_cons (pe_glob (v := .int 1000) (by rfl) T.c_THOUSAND.choose_spec ⟨_, rfl⟩) pa_nil)))))) (pss_one ps_never) pss_nil)
      (pss_cons (ps_if (pt_not (pt_val (pe_fn d_is_number_in (hr.mono (by decide)) pass0 (pa_cons (pv 3) (pa_cons pe_int (pa_cons (pe_glob (v := .int 1000000) (by rfl) T.c_MOST_LEAST.choose_spec ⟨_, rfl⟩) pa_nil)))))) (pss_one ps_never) pss_nil)
      (pss_cons (ps_if (pt_not (pt_val (pe_callB (c_isiK (K := K) rfl) (by rfl) T.b_isinstance (by decide +kernel) (pa_cons (pv 4) (pa_cons (pe_bltn (v := .ty "bool") (by rfl) T.b_bool (by decide +kernel) rfl) pa_nil))))) (pss_one ps_never) pss_nil)
      (pss_one (ps_fldK (K := K) rfl (pv 0) (pe_tup (pa_cons (pv 1) (pa_cons (pv 2) (pa_cons (pv 3) (pa_cons (pv 4) pa_nil)))))))))))), ?_⟩)
  obtain ⟨p, dx, M, rfl, ok, hp, k⟩ := h
  walk_at "rd"
  refine u_in ⟨ok.r0, ok.r1⟩ ?_
  walk_at "rd"
  refine u_in ⟨ok.s0, ok.s1⟩ ?_
  walk_at "rd"
  refine u_in ⟨ok.m0, ok.m1⟩ ?_
  walk_at "rd"
  refine r_kTup fun t H1 nt e1 ht => ?_
  walk_at "rd"
  refine r_kSFld (e1 _ _ hp) cl na (by decide) fun H2 b2 h2 => ?_
  have ntp : t ≠ p := (ne_of_none hp nt).symm
  exact k H2 (Same.but e1 b2) ⟨dx, t, h2, b2 _ _ ht ntp⟩
theorem imp_Plan {C : Addr} (vs : List V) (H : Hp) (Q : VK) (E : XK) (h : sp_Plan C vs H Q E) : spMk C (sp_Plan_init C) [] vs H Q E := by
  obtain ⟨M, rfl, ok, k⟩ := h
  intro x dx nx nd ne
  refine ⟨x, dx, M, rfl, ok, upd_same, fun H' b hP => ⟨rfl, k x H' nx (fun c o hc => ?_) hP⟩⟩
  refine b _ _ ?_ (ne_of_none hc nx)
  rw [upd_ne (ne_of_none hc nx), upd_ne (ne_of_none hc nd)]
  exact hc
theorem ok_need_plan {f : Addr} {fd : FuncData} (T : Tx K mg) (I_Plan : C8.InsC K (He.ga K "Plan")) (F : FnP K "need_plan" s_need_plan f fd) : FnOk P w K mg base CX0 1 f fd ["value"] (sp_need_plan (He.ga K "Plan")) := by
  have sc : FnScope ["value"] ["value"] (defScope s_need_plan) := ⟨rfl, rfl, rfl, by decide +kernel, rfl, by decide +kernel, by decide +kernel⟩
  refine F.ok sc (by rintro vs H Q E ⟨_, _, rfl, _⟩; rfl) (fun cdv A outer s H vs Q E hr h => ⟨_, PSs.nox ((pss_one (ps_if (pt_not (pt_val (pe_callB (C8.call_isC I_Plan) (by rfl) T.b_isinstance (by decide +kernel) (pa_cons (pv 0) (pa_cons (pe_glob (v := .ref (He.ga K "Plan")) (by rfl) T.g_Plan rfl) pa_nil))))) (pss_one ps_never) pss_nil))), ?_⟩)
  obtain ⟨p, M, rfl, ⟨dx, t, h1, h2⟩, q⟩ := h
  walk_at "rd"
  refine ⟨p, dx, fPlan t, rfl, h1, ?_⟩
  walk_at "rd"
  exact q
theorem ok_need_balance {f C : Addr} {fd : FuncData} (T : Tx K mg) (F : FnP K "need_balance" s_need_balance f fd) (d_need_plan : Dn P w K mg base CX0 1 "need_plan" ["value"] (sp_need_plan C))
    (d_is_number_in : Dn P w K mg base CX0 2 "is_number_in" ["value", "least", "most"] (sp_is_number_in K)) : FnOk P w K mg base CX0 3 f fd ["plan", "balance"] (sp_need_balance C) := by
  have sc : FnScope ["plan", "balance"] ["plan", "balance"] (defScope s_need_balance) := ⟨rfl, rfl, rfl, by decide +kernel, rfl, by decide +kernel, by decide +kernel⟩
  refine F.ok sc (by rintro vs H Q E ⟨_, _, _, rfl, _⟩; rfl) (fun cdv A outer s H vs Q E hr h => ⟨_, PSs.nox ((pss_cons (ps_expr (pe_fn d_need_plan (hr.mono (by decide)) pass0 (pa_cons (pv 0) pa_nil)))
      (pss_one (ps_if (pt_not (pt_val (pe_fn d_is_number_in (hr.mono (by decide)) pass0 (pa_cons (pv 1) (pa_cons pe_int (pa_cons (pe_glob (v := .int 100000) (by rfl) T.c_MOST_BALANCE.choose_spec ⟨_, rfl⟩) pa_nil)))))) (pss_one ps_never) pss_nil)))), ?_⟩)
  obtain ⟨p, M, x, rfl, hP, h0, h1, q⟩ := h
  walk_at "rd"
  refine ⟨p, M, rfl, hP, ?_⟩
  walk_at "rd"
  refine u_in ⟨h0, h1⟩ ?_
  walk_at "rd"
  exact q
theorem ok_month_with {f C : Addr} {fd : FuncData} (T : Tx K mg) (cl : Cls K C) (na : NoAttr K C "l_parts") (F : FnP K "month_with" s_month_with f fd) :
    FnOk P w K mg base CX0 1 f fd ["plan", "balance", "extra"] (sp_month_with C) := by
  have sc : FnScope ["plan", "balance", "extra", "rate", "share", "least", "plus", "interest", "owed", "wanted", "payment"] ["plan", "balance", "extra"] (defScope s_month_with) := ⟨rfl, rfl, rfl, by decide +kernel, rfl, by decide +kernel, by decide +kernel⟩
  refine F.ok sc (by rintro vs H Q E ⟨_, _, _, _, rfl, _⟩; rfl) (fun cdv A outer s H vs Q E hr h => ⟨_, PSs.nox ((pss_cons (ps_asg (pe_fldK (K := K) rfl (pv 0)) (pg_tupK (K := K) rfl rfl (pgs_cons (pg_name (i := 3) sc.nd rfl (by first | exact Or.inl rfl | exact Or.inr rfl)) (pgs_cons (pg_name (i := 4) sc.nd rfl (by first | exact Or.inl rfl | exact Or.inr rfl)) (pgs_cons (pg_name (i := 5) sc.nd rfl (by first | exact Or.inl rfl | exact Or.inr rfl)) (pgs_cons (pg_name (i := 6) sc.nd rfl (by first | exact Or.inl rfl | exact Or.inr rfl)) pgs_nil))))))
      (pss_cons (ps_set (i := 7) sc.nd rfl (by first | exact Or.inl rfl | exact Or.inr rfl) (pe_op op_fdiv (pe_op op_mul (pv 1) (pv 3)) (pe_glob (v := .int 1000) (by rfl) T.c_THOUSAND.choose_spec ⟨_, rfl⟩)))
      (pss_cons (ps_set (i := 8) sc.nd rfl (by first | exact Or.inl rfl | exact Or.inr rfl) (pe_op op_add (pv 1) (pv 7)))
      (pss_cons (ps_if (pt_cmpR op_le (pv 8) (pv 5) (nomark _)) (pss_one (ps_ret (pe_tup (pa_cons (pv 7) (pa_cons (pv 8) (pa_cons pe_int pa_nil)))))) pss_nil)
      (pss_cons (ps_set (i := 9) sc.nd rfl (by first | exact Or.inl rfl | exact Or.inr rfl) (pe_ifExp (pt_val (pv 6)) (pe_op op_add (pv 7) (pe_op op_fdiv (pe_op op_mul (pv 1) (pv 4)) (pe_glob (v := .int 1000) (by rfl) T.c_THOUSAND.choose_spec ⟨_, rfl⟩))) (pe_op op_fdiv (pe_op op_mul (pv 8) (pv 4)) (pe_glob (v := .int 1000) (by rfl) T.c_THOUSAND.choose_spec ⟨_, rfl⟩))))
      (pss_cons (ps_set (i := 10) sc.nd rfl (by first | exact Or.inl rfl | exact Or.inr rfl) (pe_callB (c_min2 rfl) (by rfl) T.b_min (by decide +kernel) (pa_cons (pv 8) (pa_cons (pe_op op_add (pe_callB (c_max2 rfl) (by rfl) T.b_max (by decide +kernel) (pa_cons (pv 5) (pa_cons (pv 9) pa_nil))) (pv 2)) pa_nil))))
      (pss_one (ps_ret (pe_tup (pa_cons (pv 7) (pa_cons (pv 10) (pa_cons (pe_op op_sub (pv 8) (pv 10)) pa_nil))))))))))))), ?_⟩)
  obtain ⟨p, M, x, e, rfl, ok, ⟨dx, t, h1, h2⟩, k⟩ := h
  have b1 := ok.r0
  have b2 := ok.r1
  have b3 := ok.s0
  have b4 := ok.s1
  walk_at "rd"
  refine r_kFld h1 cl na rfl ?_
  walk_at "rd"
  refine w_dec (fun hc => ?_) (fun hc => ?_)
  · walk_at "rd"
    refine r_kTup fun q H1 nq e1 hq => k q H1 nq e1 ?_
    have hc' : M.owed x ≤ M.m := hc
    unfold Pl.pay Pl.nxt
    rw [if_pos hc', if_pos hc']
    exact hq
  · have hc' : ¬ M.owed x ≤ M.m := hc
    have fin : ∀ z, M.want x = z → ∀ q H1, H q = none → Same H H1 → H1 q = some (.tup [.int (M.intr x), .int (min (M.owed x) (max M.m z + e)), .int (M.owed x - min (M.owed x) (max M.m z + e))]) → Q (.ref q) H1 := by
      intro z hz q H1 nq e1 hq
      refine k q H1 nq e1 ?_
      unfold Pl.pay Pl.nxt
      rw [if_neg hc', if_neg hc', hz]
      exact hq
    walk_at "rd"
    refine w_b (fun hb => ?_) (fun hb => ?_)
    · walk_at "rd"
      refine r_kTup fun q H1 nq e1 hq => fin _ ?_ q H1 nq e1 hq
      unfold Pl.want
      rw [if_pos hb]
      rfl
    · walk_at "rd"
      refine r_kTup fun q H1 nq e1 hq => fin _ ?_ q H1 nq e1 hq
      unfold Pl.want
      rw [if_neg (by rw [hb]; decide)]
      rfl
theorem ok_row_with {f C : Addr} {fd : FuncData} (T : Tx K mg) (F : FnP K "row_with" s_row_with f fd) (d_month_with : Dn P w K mg base CX0 1 "month_with" ["plan", "balance", "extra"] (sp_month_with C)) :
    FnOk P w K mg base CX0 2 f fd ["plan", "balance", "extra"] (sp_row_with C) := by
  have sc : FnScope ["plan", "balance", "extra", "found", "later"] ["plan", "balance", "extra"] (defScope s_row_with) := ⟨rfl, rfl, rfl, by decide +kernel, rfl, by decide +kernel, by decide +kernel⟩
  refine F.ok sc (by rintro vs H Q E ⟨_, _, _, _, rfl, _⟩; rfl) (fun cdv A outer s H vs Q E hr h => ⟨_, PSs.nox ((pss_cons (ps_set (i := 3) sc.nd rfl (by first | exact Or.inl rfl | exact Or.inr rfl) (pe_lst (pa_cons (pv 1) pa_nil)))
      (pss_cons (ps_while PassesOwn.never (pt_cmpR op_gt (pe_ix (ix_listK (K := K) rfl) (pv 3) (pe_un un_neg pe_int) (fun _ _ => rfl)) pe_int (nomark _)) (pss_cons (ps_set (i := 4) sc.nd rfl (by first | exact Or.inl rfl | exact Or.inr rfl) (pe_ix (ix_tupK (K := K) rfl) (pe_fn d_month_with (hr.mono (by decide)) pass0 (pa_cons (pv 0) (pa_cons (pe_ix (ix_listK (K := K) rfl) (pv 3) (pe_un un_neg pe_int) (fun _ _ => rfl)) (pa_cons (pv 2) pa_nil)))) pe_int (fun _ _ => rfl)))
      (pss_cons (ps_if (pt_cmpR op_ge (pv 4) (pe_ix (ix_listK (K := K) rfl) (pv 3) (pe_un un_neg pe_int) (fun _ _ => rfl)) (nomark _)) (pss_one (ps_ret (pv 3))) pss_nil)
      (pss_one (ps_expr (pe_bmK (K := K) rfl PySem.F.plainAttrs_list PySem.F.slot_list_append PySem.F.type_list_append mt_append (pv 3) (pa_cons (pv 4) pa_nil)))))))
      (pss_one (ps_ret (pv 3)))))), ?_⟩)
  obtain ⟨p, M, x, e, rfl, ok, hP, hx0, hx1, k⟩ := h
  walk_at "rd"
  refine r_kLst fun t H1 nt e1 ht => ?_
  walk_at "rd"
  refine r_while (fun m σ' H' => ∃ (pre : List Int) (z : Int) (y : Option V), σ' = [some (.ref p), some (.int x), some (.int e), some (.ref t), y] ∧ Same H H' ∧ H' t = some (.lst ((pre ++ [z]).map V.int)) ∧
    pre ++ M.row e z = M.row e x ∧ 0 ≤ z ∧ m = z.toNat ∧ pre.length + z.toNat ≤ x.toNat) x.toNat ⟨[], x, _, rfl, e1, ht, rfl, hx0, rfl, by simp⟩ ?_
  rintro m σ' H' ⟨pre, z, y, rfl, e2, h2, hrow, hz0, rfl, hlen⟩
  have hl : ∀ G : Hp, G t = some (.lst ((pre ++ [z]).map V.int)) → SqL K G t (pre.map V.int ++ [V.int z]) := fun G h => by
    rw [List.map_append] at h
    exact SqL.of h
  walk_at "rd"
  refine r_ixL (hl _ h2) (at_last _ _) ?_
  walk_at "rd"
  refine r_kWh (fun hz => ?_) (fun hz => ?_)
  · have hz : 0 < z := of_decide_eq_true hz
    walk_at "rd"
    refine r_ixL (hl _ h2) (at_last _ _) ?_
    walk_at "rd"
    refine ⟨p, M, z, e, rfl, ok, hP.keep e2, fun u H3 nu e3 hu => ?_⟩
    have h3 := e3 _ _ h2
    refine r_ixT (SqT.of hu) (at_get (n := 2) rfl rfl) ?_
    walk_at "rd"
    refine r_ixL (hl _ h3) (at_last _ _) ?_
    walk_at "rd"
    refine w_dec (fun hc => ?_) (fun hc => ?_)
    · walk_at "rd"
      refine k t H3 nt (e2.trans e3) ?_
      rw [← hrow, Pl.row_end (by omega)]
      exact h3
    · walk_at "rd"
      refine r_append h3 (by rw [List.length_map, List.length_append]; show pre.length + 1 < 1000000; omega) fun H4 b4 h4 => ?_
      have hn := M.nxt_nonneg e z
      refine ⟨(M.nxt e z).toNat, by omega, pre ++ [z], M.nxt e z, _, rfl, Same.mut (e2.trans e3) b4 nt, ?_, ?_, hn, rfl, ?_⟩
      · rw [List.map_append]
        exact h4
      · rw [← hrow, Pl.row_step hz (by omega), List.append_assoc]
        rfl
      · rw [List.length_append]
        show pre.length + 1 + _ ≤ _
        omega
  · have hz : ¬ 0 < z := of_decide_eq_false hz
    walk_at "rd"
    refine k t H' nt e2 ?_
    rw [← hrow, Pl.row_end (by omega)]
    exact h2
/-- what ending hands back -/
def EndV (H H' : Hp) (v : V) : Option (Int × Int) → Prop
  | none => v = .non
  | some q => ∃ t, H t = none ∧ v = .ref t ∧ H' t = some (.tup [.int q.1, .int q.2])
def sp_ending (C : Addr) : Sp := fun vs H Q _ => ∃ (p : Addr) (M : Pl) (x : Int), vs = [.ref p, .int x] ∧ M.Ok ∧ PlanAt C H p M ∧ 0 ≤ x ∧ x ≤ 100000 ∧
  ∀ v H', Same H H' → EndV H H' v (M.endR x) → Q v H'
/-- what evidence hands back -/
def EvdV (M : Pl) (x : Int) (H H' : Hp) (v : V) : Prop := ∃ t, H t = none ∧ v = .ref t ∧
  ((Pl.lastOf (M.row 0 x) > 0 ∧ H' t = some (.tup [.str "never", .int (Pl.lastOf (M.row 0 x))])) ∨
   (¬ Pl.lastOf (M.row 0 x) > 0 ∧ ∃ q, H q = none ∧ H' t = some (.tup [.str "ends", .ref q]) ∧ H' q = some (.lst ((M.row 0 x).map V.int))))
def sp_evidence (C : Addr) : Sp := fun vs H Q _ => ∃ (p : Addr) (M : Pl) (x : Int), vs = [.ref p, .int x] ∧ M.Ok ∧ PlanAt C H p M ∧ 0 ≤ x ∧ x ≤ 100000 ∧
  ∀ v H', Same H H' → EvdV M x H H' v → Q v H'
theorem ok_ending {f C : Addr} {fd : FuncData} (T : Tx K mg) (F : FnP K "ending" s_ending f fd) (d_need_balance : Dn P w K mg base CX0 3 "need_balance" ["plan", "balance"] (sp_need_balance C))
    (d_month_with : Dn P w K mg base CX0 1 "month_with" ["plan", "balance", "extra"] (sp_month_with C)) (d_row_with : Dn P w K mg base CX0 2 "row_with" ["plan", "balance", "extra"] (sp_row_with C)) :
    FnOk P w K mg base CX0 4 f fd ["plan", "balance"] (sp_ending C) := by
  have sc : FnScope ["plan", "balance", "row", "one"] ["plan", "balance"] (defScope s_ending) := ⟨rfl, rfl, rfl, by decide +kernel, rfl, by decide +kernel, by decide +kernel⟩
  refine F.ok sc (by rintro vs H Q E ⟨_, _, _, rfl, _⟩; rfl) (fun cdv A outer s H vs Q E hr h => ⟨_, PSs.nox ((pss_cons (ps_expr (pe_fn d_need_balance (hr.mono (by decide)) pass0 (pa_cons (pv 0) (pa_cons (pv 1) pa_nil))))
      (pss_cons (ps_set (i := 2) sc.nd rfl (by first | exact Or.inl rfl | exact Or.inr rfl) (pe_fn d_row_with (hr.mono (by decide)) pass0 (pa_cons (pv 0) (pa_cons (pv 1) (pa_cons pe_int pa_nil)))))
      (pss_cons (ps_if (pt_cmpR op_gt (pe_ix (ix_listK (K := K) rfl) (pv 2) (pe_un un_neg pe_int) (fun _ _ => rfl)) pe_int (nomark _)) (pss_one (ps_ret pe_non)) pss_nil)
      (pss_one (ps_ret (pe_tup (pa_cons (pe_op op_sub (pe_callB (c_lenK (K := K) rfl) (by rfl) T.b_len (by decide +kernel) (pa_cons (pv 2) pa_nil)) pe_int) (pa_cons (pe_callB (c_sumK (K := K) rfl rfl) (by rfl) T.b_sum (by decide +kernel) (pa_cons (pe_lc (own := [("one", 3)]) (by rfl) sc.nd (pi_listK (K := K) rfl (pv 2)) (blkOk_by (own := [("one", 3)]) (N := ["plan", "balance", "row", "one"]) (sc := defScope s_ending) (by decide +kernel)) (fun _ _ _ _ _ => (pg_name (i := 3) sc.nd rfl (by first | exact Or.inl rfl | exact Or.inr rfl))) (fun _ _ _ _ _ => pts_nil) (fun _ _ _ _ _ => (pe_ix (ix_tupK (K := K) rfl) (pe_fn d_month_with (hr.mono (by decide)) pass0 (pa_cons (pv 0) (pa_cons (pv 3) (pa_cons pe_int pa_nil)))) pe_int (fun _ _ => rfl)))) pa_nil)) pa_nil))))))))), ?_⟩)
  obtain ⟨p, M, x, rfl, ok, hP, hx0, hx1, k⟩ := h
  walk_at "rd"
  refine ⟨p, M, x, rfl, hP, hx0, hx1, ?_⟩
  walk_at "rd"
  refine ⟨p, M, x, 0, rfl, ok, hP, hx0, hx1, fun t H1 nt e1 ht => ?_⟩
  obtain ⟨pre, z, hrow, hz0, hzx, _⟩ := Pl.row_last (P := M) (e := 0) x.toNat x (Nat.le_refl _) hx0
  have hl : ∀ G : Hp, G t = some (.lst ((M.row 0 x).map V.int)) → SqL K G t (pre.map V.int ++ [V.int z]) := fun G h => by
    rw [hrow, List.map_append] at h
    exact SqL.of h
  have hlast : Pl.lastOf (M.row 0 x) = z := by rw [hrow, Pl.lastOf_app]
  have hrl := Pl.row_len (P := M) (e := 0) x
  walk_at "rd"
  refine r_ixL (hl _ ht) (at_last _ _) ?_
  walk_at "rd"
  refine w_dec (fun hc => ?_) (fun hc => ?_)
  · walk_at "rd"
    refine k .non H1 e1 ?_
    unfold Pl.endR
    rw [if_pos (by rw [hlast]; exact hc)]
    rfl
  · walk_at "rd"
    refine r_lenL (SqL.of ht) ?_
    walk_at "rd"
    refine r_kLcL (xs := (M.row 0 x).map V.int) (fun Da i H' => Same H1 H' ∧ H' Da = some (.lst ((((M.row 0 x).take i).map M.intr).map V.int))) (SqL.of ht) (fun Da H' _ e h => ⟨e, h⟩) (fun Da i H' ⟨e, _⟩ => SqL.of (e _ _ ht)) ?_ ?_
    · rintro Da i y H' hD hy ⟨e2, h2⟩
      obtain ⟨y, rfl, hy2⟩ := ints_get hy
      walk_at "rd"
      refine ⟨p, M, y, 0, rfl, ok, hP.keep (e1.trans e2), fun u H3 nu e3 hu => ?_⟩
      refine r_ixT (SqT.of hu) (at_get (n := 0) rfl rfl) ?_
      refine r_kLcE (e3 _ _ h2) (by rw [List.length_map, List.length_map, List.length_take]; omega) fun H4 b4 h4 => ⟨Same.mut (e2.trans e3) b4 hD, ?_⟩
      rw [take_more hy2, List.map_append, List.map_append]
      exact h4
    · rintro Da H2 hD ⟨e2, h2⟩
      rw [List.length_map, List.take_length] at h2
      walk_at "rd"
      refine r_sum (SqL.of h2) ?_
      walk_at "rd"
      refine r_kTup fun u H3 nu e3 hu => k (.ref u) H3 ((e1.trans e2).trans e3) ?_
      unfold Pl.endR
      rw [if_neg (by rw [hlast]; exact hc)]
      refine ⟨u, (e1.trans e2).free nu, rfl, ?_⟩
      rw [List.length_map] at hu
      exact hu
theorem ok_evidence {f C : Addr} {fd : FuncData} (T : Tx K mg) (F : FnP K "evidence" s_evidence f fd) (d_need_balance : Dn P w K mg base CX0 3 "need_balance" ["plan", "balance"] (sp_need_balance C))
    (d_row_with : Dn P w K mg base CX0 2 "row_with" ["plan", "balance", "extra"] (sp_row_with C)) :
    FnOk P w K mg base CX0 4 f fd ["plan", "balance"] (sp_evidence C) := by
  have sc : FnScope ["plan", "balance", "row"] ["plan", "balance"] (defScope s_evidence) := ⟨rfl, rfl, rfl, by decide +kernel, rfl, by decide +kernel, by decide +kernel⟩
  refine F.ok sc (by rintro vs H Q E ⟨_, _, _, rfl, _⟩; rfl) (fun cdv A outer s H vs Q E hr h => ⟨_, PSs.nox ((pss_cons (ps_expr (pe_fn d_need_balance (hr.mono (by decide)) pass0 (pa_cons (pv 0) (pa_cons (pv 1) pa_nil))))
      (pss_cons (ps_set (i := 2) sc.nd rfl (by first | exact Or.inl rfl | exact Or.inr rfl) (pe_fn d_row_with (hr.mono (by decide)) pass0 (pa_cons (pv 0) (pa_cons (pv 1) (pa_cons pe_int pa_nil)))))
      (pss_one (ps_ret (pe_ifExp (pt_cmpR op_gt (pe_ix (ix_listK (K := K) rfl) (pv 2) (pe_un un_neg pe_int) (fun _ _ => rfl)) pe_int (nomark _)) (pe_tup (pa_cons (pe_glob (v := .str "never") (by rfl) T.c_NEVER.choose_spec ⟨_, rfl⟩) (pa_cons (pe_ix (ix_listK (K := K) rfl) (pv 2) (pe_un un_neg pe_int) (fun _ _ => rfl)) pa_nil))) (pe_tup (pa_cons (pe_glob (v := .str "ends") (by rfl) T.c_ENDS.choose_spec ⟨_, rfl⟩) (pa_cons (pv 2) pa_nil))))))))), ?_⟩)
  obtain ⟨p, M, x, rfl, ok, hP, hx0, hx1, k⟩ := h
  walk_at "rd"
  refine ⟨p, M, x, rfl, hP, hx0, hx1, ?_⟩
  walk_at "rd"
  refine ⟨p, M, x, 0, rfl, ok, hP, hx0, hx1, fun t H1 nt e1 ht => ?_⟩
  obtain ⟨pre, z, hrow, hz0, hzx, _⟩ := Pl.row_last (P := M) (e := 0) x.toNat x (Nat.le_refl _) hx0
  have hl : ∀ G : Hp, G t = some (.lst ((M.row 0 x).map V.int)) → SqL K G t (pre.map V.int ++ [V.int z]) := fun G h => by
    rw [hrow, List.map_append] at h
    exact SqL.of h
  have hlast : Pl.lastOf (M.row 0 x) = z := by rw [hrow, Pl.lastOf_app]
  walk_at "rd"
  refine r_ixL (hl _ ht) (at_last _ _) ?_
  walk_at "rd"
  refine w_dec (fun hc => ?_) (fun hc => ?_)
  · walk_at "rd"
    refine r_ixL (hl _ ht) (at_last _ _) ?_
    walk_at "rd"
    refine r_kTup fun u H3 nu e3 hu => k (.ref u) H3 (e1.trans e3) ⟨u, e1.free nu, rfl, .inl ?_⟩
    rw [hlast]
    exact ⟨hc, hu⟩
  · walk_at "rd"
    refine r_kTup fun u H3 nu e3 hu => k (.ref u) H3 (e1.trans e3) ⟨u, e1.free nu, rfl, .inr ?_⟩
    rw [hlast]
    exact ⟨hc, t, nt, hu, e3 _ _ ht⟩
end
end Wp
set_option Elab.async false
set_option linter.all false
set_option maxRecDepth 100000
set_option maxHeartbeats 4000000
namespace Wp
open PySem PySem.Spec PyProof.Rows L2
abbrev s__law_parts : Stmt := topS 26
abbrev s__law_planned : Stmt := topS 27
abbrev s__law_sum_drawn : Stmt := topS 28
abbrev s__law_step : Stmt := topS 29
abbrev s__law_walk : Stmt := topS 30
local macro_rules | `(tactic| walk_at "val") => `(tactic| assumption)
local macro_rules | `(tactic| walk_at "rd1") => `(tactic| first
  | with_reducible refine r_seq ?_ | with_reducible refine r_next ?_ | with_reducible refine r_if ?_ | with_reducible refine r_asg ?_ | with_reducible refine r_gname ?_
  | with_reducible refine r_ret ?_ | with_reducible refine r_retN ?_ | with_reducible refine r_drop ?_ | with_reducible refine r_par ?_ | with_reducible refine r_kPar ?_
  | ((with_reducible refine' r_var ?hv ?_); (case hv => exact rfl)) | with_reducible refine r_c ?_ | with_reducible refine r_nil ?_ | with_reducible refine r_cons ?_
  | with_reducible refine r_fn ?_ | with_reducible refine r_cb ?_ | with_reducible refine r_op ?_ | with_reducible refine r_un ?_ | with_reducible refine r_I0 ?_
  | with_reducible refine r_pow5 ?_ | with_reducible refine r_pow6 ?_ | with_reducible refine r_pow7 ?_ | with_reducible refine r_pow9 ?_ | with_reducible refine r_pow18 ?_ | with_reducible refine r_pow20 ?_ | with_reducible refine r_pow30 ?_
  | with_reducible refine r_isN_non ?_ | with_reducible refine r_isN_ref ?_ | with_reducible refine r_isN_int ?_ | with_reducible refine r_isN_str ?_ | with_reducible refine r_isN_bl ?_ | with_reducible refine r_notN_non ?_ | with_reducible refine r_notN_ref ?_ | with_reducible refine r_notN_int ?_ | with_reducible refine r_notN_str ?_ | with_reducible refine r_notN_bl ?_
  | ((with_reducible refine r_I ?hc ?_); (case hc => walk_at "side")) | with_reducible refine r_U ?_
  | with_reducible refine r_eqI ?_ | with_reducible refine r_neI ?_ | with_reducible refine r_eqS ?_ | with_reducible refine r_neS ?_ | with_reducible refine r_eqB ?_ | with_reducible refine r_neB ?_
  | with_reducible refine r_chain ?_ | with_reducible refine r_test ?_ | with_reducible refine r_tB ?_ | with_reducible refine r_kTest ?_ | with_reducible refine r_not ?_
  | with_reducible refine r_and ?_ | with_reducible refine r_or ?_ | with_reducible refine r_tif ?_ | with_reducible refine r_andV ?_ | with_reducible refine r_orV ?_ | with_reducible refine r_notV ?_
  | with_reducible refine r_kAndV ?_ | with_reducible refine r_kOrV ?_ | with_reducible refine r_kNotV ?_
  | with_reducible refine w_T ?_ | with_reducible refine w_F ?_ | with_reducible refine w_NT ?_ | with_reducible refine w_NF ?_
  | with_reducible refine r_tup ?_ | with_reducible refine r_lst ?_ | with_reducible refine r_fld ?_ | with_reducible refine r_dget ?_ | with_reducible refine r_dput ?_ | with_reducible refine r_bm ?_
  | ((with_reducible refine' r_kDGetS ?h1 ?h2 ?_); (case h1 => assumption); (case h2 => walk_at "val"))
  | ((with_reducible refine' r_kBML ?h1 ?_); (case h1 => assumption))
  | with_reducible refine r_forL ?_ | with_reducible refine r_forR1 ?_ | with_reducible refine r_forR2 ?_ | with_reducible refine r_forT ?_ | with_reducible refine r_lcL ?_ | with_reducible refine r_lcR1 ?_
  | ((with_reducible refine r_kLcG ?hw ?_); (case hw => exact rfl)) | with_reducible refine r_kLcT ?_ | with_reducible refine r_yes ?_
  | with_reducible refine r_pnil ?_ | with_reducible refine r_pcons ?_
  | with_reducible refine r_fnK ?_ | ((with_reducible refine r_kFnK ?hl ?_); (case hl => exact rfl))
  | with_reducible refine r_isi_ii ?_ | with_reducible refine r_isi_ib ?_ | with_reducible refine r_isi_bi ?_ | with_reducible refine r_isi_bb ?_ | with_reducible refine r_isi_ss ?_ | with_reducible refine r_isi_is ?_ | with_reducible refine r_isi_it ?_
  | ((with_reducible refine' r_isi_tt ?h1 ?_); (case h1 => assumption))
  | with_reducible refine r_sfld ?_ | with_reducible refine r_gnil ?_ | with_reducible refine r_gcons ?_
  | ((with_reducible refine' r_gtup ?h1 ?h2 ?_); (case h1 => exact SqT.of (by assumption)); (case h2 => exact rfl))
  | with_reducible refine r_int1 ?_ | with_reducible refine r_int1b ?_ | with_reducible refine r_min2 ?_ | with_reducible refine r_max2 ?_)
local macro_rules | `(tactic| walk_at "rd") => `(tactic| repeat walk_at "rd1")
local macro_rules | `(tactic| walk_at "side") => `(tactic| first | assumption | exact Or.inr ⟨by decide, by decide⟩ | exact Or.inl ⟨by decide, by decide⟩ | (constructor <;> omega) | omega | decide | (refine Or.inl ⟨?_, ?_⟩ <;> omega) | (refine Or.inr ⟨?_, ?_⟩ <;> omega) | (refine ⟨?_, ?_, ?_⟩ <;> first | decide | omega))
/-- ints within bounds -/
def IntsIn (lo hi : Int) : List V → Prop
  | [] => True
  | x :: xs => (∃ z, x = .int z ∧ lo ≤ z ∧ z ≤ hi) ∧ IntsIn lo hi xs
theorem IntsIn.get {lo hi : Int} : ∀ {xs : List V} {i : Nat} {x : V}, IntsIn lo hi xs → xs[i]? = some x → ∃ z, x = .int z ∧ lo ≤ z ∧ z ≤ hi
  | [], _, _, _, h => by simp at h
  | _ :: _, 0, _, a, h => by
    have e := Option.some.inj h
    subst e
    exact a.1
  | _ :: r, i + 1, x, a, h => IntsIn.get (xs := r) (i := i) a.2 h
def AnyI : List V → Prop
  | [] => True
  | x :: xs => (∃ z, x = .int z) ∧ AnyI xs
theorem AnyI.get : ∀ {xs : List V} {i : Nat} {x : V}, AnyI xs → xs[i]? = some x → ∃ z, x = .int z
  | [], _, _, _, h => by simp at h
  | _ :: _, 0, _, a, h => by
    have e := Option.some.inj h
    subst e
    exact a.1
  | _ :: r, i + 1, x, a, h => AnyI.get (xs := r) (i := i) a.2 h
local macro_rules | `(tactic| walk_at "anyi") => `(tactic| repeat (first | exact trivial | refine ⟨⟨_, rfl⟩, ?_⟩))
local macro_rules | `(tactic| walk_at "ints") => `(tactic| repeat (first | exact trivial | refine ⟨⟨_, rfl, by first | omega | decide, by first | omega | decide⟩, ?_⟩))
section
variable {K : PySem.W.Frag} {st l c p : Addr} {cs : List Int} {B n : Int} {H H0 H' : Hp} {Q : VK} {E : XK} {xs : List V}
theorem DS.nl (D : DS st l c cs B H) (h : H p = none) : p ≠ l := by
  obtain ⟨zs, _, hl⟩ := D.lg
  exact (ne_of_none hl h).symm
theorem DS.nst (D : DS st l c cs B H) (h : H p = none) : p ≠ st := by
  obtain ⟨r, t, _, _, _, hd⟩ := D.d
  exact (ne_of_none hd h).symm
theorem u_take (D : DS st l c cs B H) (hB : B ≤ 35184372088832) (h1 : 0 < n) (h2 : n < 1073741824) (k : ∀ (i : Int) (H' : Hp), 0 ≤ i → i < n → DS st l c cs (B + 1) H' → Kp st l H H' → Q (.int i) H') : sp_take [.ref st, .int n] H Q E :=
  ⟨st, l, c, cs, B, n, rfl, h1, h2, hB, D, k⟩
theorem u_pick (D : DS st l c cs B H0) (hB : B ≤ 35184372088832) (np : H0 p = none) (e : Same H0 H) (hp : H p = some (.lst xs)) (hne : xs ≠ []) (hlen : xs.length < 1000000)
    (k : ∀ (i : Nat) (x : V) (H' : Hp), xs[i]? = some x → DS st l c cs (B + 1) H' → Kp st l H0 H' → Q x H') : sp_pick [.ref st, .ref p] H Q E :=
  ⟨st, l, c, p, cs, B, xs, rfl, hB, D.keep e, hp, hne, hlen, D.nl np, fun i x H' hx D' k' => k i x H' hx D' ((Kp.of e).trans k')⟩
theorem Kp.tup {ys : List V} (k : Kp st l H H') (D : DS st l c cs B H) (h : H p = some (.tup ys)) : H' p = some (.tup ys) := by
  obtain ⟨zs, _, hl⟩ := D.lg
  obtain ⟨r, t, _, _, _, hd⟩ := D.d
  exact k _ _ h (ne_of h hd (by intro z; cases z)) (ne_of h hl (by intro z; cases z))
end
/-- the drawn parts of a plan stand at t -/
def PartsAt (H : Hp) (t : Addr) (M : Pl) : Prop := H t = some (.tup [.int M.r, .int M.s, .int M.m, .bl M.b])
def sp_parts : Sp := fun vs H Q _ => ∃ (st l c : Addr) (cs : List Int) (B : Int), vs = [.ref st] ∧ B ≤ 17592186044416 ∧ DS st l c cs B H ∧
  ∀ (t : Addr) (M : Pl) (H' : Hp), H t = none → M.Ok → M.m ≤ 3000 → PartsAt H' t M → DS st l c cs (B + 12) H' → Kp st l H H' → Q (.ref t) H'
def sp_planned (C : Addr) : Sp := fun vs H Q _ => ∃ (t : Addr) (M : Pl), vs = [.ref t] ∧ M.Ok ∧ PartsAt H t M ∧
  ∀ p H', H p = none → Same H H' → PlanAt C H' p M → Q (.ref p) H'
def sp_step : Sp := fun vs H Q _ => ∃ (t : Addr) (M : Pl) (x e : Int), vs = [.ref t, .int x, .int e] ∧ M.Ok ∧ PartsAt H t M ∧
  ∀ u H', H u = none → Same H H' → H' u = some (.tup [.int (M.intr x), .int (M.pay e x), .int (M.nxt e x)]) → Q (.ref u) H'
def sp_walk : Sp := fun vs H Q _ => ∃ (t : Addr) (M : Pl) (x e : Int) (n : Nat), vs = [.ref t, .int x, .int e, .int (n : Int)] ∧ M.Ok ∧ PartsAt H t M ∧ 0 ≤ x ∧ n ≤ 100000 ∧
  ∀ u H', H u = none → Same H H' → H' u = some (.lst ((M.rowF e n x).map V.int)) → Q (.ref u) H'
def sp_sum_drawn : Sp := fun vs H Q _ => ∃ (st l c t : Addr) (M : Pl) (cs : List Int) (B : Int), vs = [.ref st, .ref t] ∧ M.Ok ∧ PartsAt H t M ∧ B ≤ 17592186044416 ∧ DS st l c cs B H ∧
  ∀ (x : Int) (H' : Hp), 0 ≤ x → x ≤ 20000 → DS st l c cs (B + 3) H' → Kp st l H H' → Q (.int x) H'
section
variable {P : Program} {w : World} {K : PySem.W.Frag} {mg : Str → Option Value} {base : Heap}
theorem ok__law_parts {f : Addr} {fd : FuncData} (T : Tx K mg) (F : FnP K "_law_parts" s__law_parts f fd)
    (d__law_take : Dn P w K mg base CX0 2 "_law_take" ["_law_state", "_law_size"] sp_take) (d__law_pick : Dn P w K mg base CX0 3 "_law_pick" ["_law_state", "_law_some"] sp_pick) :
    FnOk P w K mg base CX0 4 f fd ["_law_state"] sp_parts := by
  have sc : FnScope ["_law_state", "_law_rated", "_law_part", "_law_low"] ["_law_state"] (defScope s__law_parts) := ⟨rfl, rfl, rfl, by decide +kernel, rfl, by decide +kernel, by decide +kernel⟩
  refine F.ok sc (by rintro vs H Q E ⟨_, _, _, _, _, rfl, _⟩; rfl) (fun cdv A outer s H vs Q E hr h => ⟨_, PSs.nox ((pss_cons (ps_set (i := 1) sc.nd rfl (by first | exact Or.inl rfl | exact Or.inr rfl) (pe_fn d__law_pick (hr.mono (by decide)) pass0 (pa_cons (pv 0) (pa_cons (pe_lst (pa_cons pe_int (pa_cons pe_int (pa_cons pe_int (pa_cons pe_int (pa_cons pe_int (pa_cons pe_int (pa_cons pe_int (pa_cons pe_int (pa_cons (pe_fn d__law_take (hr.mono (by decide)) pass0 (pa_cons (pv 0) (pa_cons pe_int pa_nil))) (pa_cons (pe_fn d__law_take (hr.mono (by decide)) pass0 (pa_cons (pv 0) (pa_cons pe_int pa_nil))) pa_nil))))))))))) pa_nil))))
      (pss_cons (ps_set (i := 2) sc.nd rfl (by first | exact Or.inl rfl | exact Or.inr rfl) (pe_fn d__law_pick (hr.mono (by decide)) pass0 (pa_cons (pv 0) (pa_cons (pe_lst (pa_cons pe_int (pa_cons pe_int (pa_cons pe_int (pa_cons pe_int (pa_cons pe_int (pa_cons pe_int (pa_cons pe_int (pa_cons pe_int (pa_cons (pe_fn d__law_take (hr.mono (by decide)) pass0 (pa_cons (pv 0) (pa_cons pe_int pa_nil))) (pa_cons (pe_fn d__law_take (hr.mono (by decide)) pass0 (pa_cons (pv 0) (pa_cons pe_int pa_nil))) pa_nil))))))))))) pa_nil))))
      (pss_cons (ps_set (i := 3) sc.nd rfl (by first | exact Or.inl rfl | exact Or.inr rfl) (pe_fn d__law_pick (hr.mono (by decide)) pass0 (pa_cons (pv 0) (pa_cons (pe_lst (pa_cons pe_int (pa_cons pe_int (pa_cons pe_int (pa_cons pe_int (pa_cons pe_int (pa_cons pe_int (pa_cons (pe_op op_add pe_int (pe_fn d__law_take (hr.mono (by decide)) pass0 (pa_cons (pv 0) (pa_cons pe_int pa_nil)))) (pa_cons (pe_op op_add pe_int (pe_fn d__law_take (hr.mono (by decide)) pass0 (pa_cons (pv 0) (pa_cons pe_int pa_nil)))) pa_nil))))))))) pa_nil))))
      (pss_one (ps_ret (pe_tup (pa_cons (pv 1) (pa_cons (pv 2) (pa_cons (pv 3) (pa_cons (pe_cmpR op_eq (pe_fn d__law_take (hr.mono (by decide)) pass0 (pa_cons (pv 0) (pa_cons pe_int pa_nil))) pe_int (nomark _)) pa_nil))))))))))), ?_⟩)
  obtain ⟨st, l, c, cs, B, rfl, hB, D, k⟩ := h
  walk_at "rd"
  refine u_take D (by omega) (by decide) (by decide) fun a1 H1 a1l a1h D1 k1 => ?_
  walk_at "rd"
  refine u_take D1 (by omega) (by decide) (by decide) fun a2 H2 a2l a2h D2 k2 => ?_
  walk_at "rd"
  refine r_kLst fun p1 H3 np1 e3 hp1 => ?_
  walk_at "rd"
  refine u_pick D2 (by omega) np1 e3 hp1 (by simp) (by simp) fun i x H4 hx D4 k4 => ?_
  obtain ⟨x, rfl, x0, x1⟩ := IntsIn.get (lo := 0) (hi := 1000) (by walk_at "ints") hx
  walk_at "rd"
  refine u_take D4 (by omega) (by decide) (by decide) fun a3 H5 a3l a3h D5 k5 => ?_
  walk_at "rd"
  refine u_take D5 (by omega) (by decide) (by decide) fun a4 H6 a4l a4h D6 k6 => ?_
  walk_at "rd"
  refine r_kLst fun p2 H7 np2 e7 hp2 => ?_
  walk_at "rd"
  refine u_pick D6 (by omega) np2 e7 hp2 (by simp) (by simp) fun j y H8 hy D8 k8 => ?_
  obtain ⟨y, rfl, y0, y1⟩ := IntsIn.get (lo := 0) (hi := 1000) (by walk_at "ints") hy
  walk_at "rd"
  refine u_take D8 (by omega) (by decide) (by decide) fun a5 H9 a5l a5h D9 k9 => ?_
  walk_at "rd"
  refine u_take D9 (by omega) (by decide) (by decide) fun a6 H10 a6l a6h D10 k10 => ?_
  walk_at "rd"
  refine r_kLst fun p3 H11 np3 e11 hp3 => ?_
  walk_at "rd"
  refine u_pick D10 (by omega) np3 e11 hp3 (by simp) (by simp) fun i3 z H12 hz D12 k12 => ?_
  obtain ⟨z, rfl, z0, z1⟩ := IntsIn.get (lo := 1) (hi := 3000) (by walk_at "ints") hz
  walk_at "rd"
  refine u_take D12 (by omega) (by decide) (by decide) fun a7 H13 a7l a7h D13 k13 => ?_
  walk_at "rd"
  have kk : Kp st l H H13 := ((((((((k1.trans k2).trans k4).trans k5).trans k6).trans k8).trans k9).trans k10).trans k12).trans k13
  refine r_kTup fun t H14 nt e14 ht => ?_
  have nt0 : H t = none := by
    cases q : H t with
    | none => rfl
    | some o =>
      by_cases h1 : t = st
      · obtain ⟨_, _, _, _, _, hd⟩ := D13.d
        rw [← h1, nt] at hd
        cases hd
      · by_cases h2 : t = l
        · obtain ⟨_, _, hd⟩ := D13.lg
          rw [← h2, nt] at hd
          cases hd
        · rw [kk t o q h1 h2] at nt
          cases nt
  exact k t ⟨x, y, z, decide (a7 = 0)⟩ H14 nt0 ⟨x0, x1, y0, y1, z0, by show z ≤ 1000000; omega⟩ z1 ht ((D13.mono (by omega)).keep e14) (kk.trans (Kp.of e14))
theorem ok__law_planned {f C : Addr} {fd : FuncData} (T : Tx K mg) (F : FnP K "_law_planned" s__law_planned f fd) (mk_Plan : Dc P w K mg base CX0 3 "Plan" (sp_Plan C)) :
    FnOk P w K mg base CX0 5 f fd ["_law_parts_here"] (sp_planned C) := by
  have sc : FnScope ["_law_parts_here"] ["_law_parts_here"] (defScope s__law_planned) := ⟨rfl, rfl, rfl, by decide +kernel, rfl, by decide +kernel, by decide +kernel⟩
  refine F.ok sc (by rintro vs H Q E ⟨_, _, rfl, _⟩; rfl) (fun cdv A outer s H vs Q E hr h => ⟨_, PSs.nox ((pss_one (ps_ret (pe_mk mk_Plan (hr.mono (by decide)) pass0 (pa_cons (pe_ix (ix_tupK (K := K) rfl) (pv 0) pe_int (fun _ _ => rfl)) (pa_cons (pe_ix (ix_tupK (K := K) rfl) (pv 0) pe_int (fun _ _ => rfl)) (pa_cons (pe_ix (ix_tupK (K := K) rfl) (pv 0) pe_int (fun _ _ => rfl)) (pa_cons (pe_ix (ix_tupK (K := K) rfl) (pv 0) pe_int (fun _ _ => rfl)) pa_nil)))))))), ?_⟩)
  obtain ⟨t, M, rfl, ok, ht, k⟩ := h
  have hs : ∀ (i : Nat) (v : V), [V.int M.r, V.int M.s, V.int M.m, V.bl M.b][i]? = some v → ∀ Q' : VK, Q' v H → rIxT K (.ref t) (.int (i : Int)) H Q' := fun i v hv Q' q => r_ixT (SqT.of ht) (atI_nat hv) q
  walk_at "rd"
  refine hs 0 _ rfl _ ?_
  walk_at "rd"
  refine hs 1 _ rfl _ ?_
  walk_at "rd"
  refine hs 2 _ rfl _ ?_
  walk_at "rd"
  refine hs 3 _ rfl _ ?_
  walk_at "rd"
  exact ⟨M, rfl, ok, k⟩
theorem ok__law_step {f : Addr} {fd : FuncData} (T : Tx K mg) (F : FnP K "_law_step" s__law_step f fd) :
    FnOk P w K mg base CX0 1 f fd ["_law_parts_here", "_law_sum_here", "_law_more"] sp_step := by
  have sc : FnScope ["_law_parts_here", "_law_sum_here", "_law_more", "_law_rated", "_law_part", "_law_low", "_law_is_plus", "_law_plus_here", "_law_every", "_law_due"] ["_law_parts_here", "_law_sum_here", "_law_more"] (defScope s__law_step) := ⟨rfl, rfl, rfl, by decide +kernel, rfl, by decide +kernel, by decide +kernel⟩
  refine F.ok sc (by rintro vs H Q E ⟨_, _, _, _, rfl, _⟩; rfl) (fun cdv A outer s H vs Q E hr h => ⟨_, PSs.nox ((pss_cons (ps_asg (pv 0) (pg_tupK (K := K) rfl rfl (pgs_cons (pg_name (i := 3) sc.nd rfl (by first | exact Or.inl rfl | exact Or.inr rfl)) (pgs_cons (pg_name (i := 4) sc.nd rfl (by first | exact Or.inl rfl | exact Or.inr rfl)) (pgs_cons (pg_name (i := 5) sc.nd rfl (by first | exact Or.inl rfl | exact Or.inr rfl)) (pgs_cons (pg_name (i := 6) sc.nd rfl (by first | exact Or.inl rfl | exact Or.inr rfl)) pgs_nil))))))
      (pss_cons (ps_set (i := 7) sc.nd rfl (by first | exact Or.inl rfl | exact Or.inr rfl) (pe_op op_fdiv (pe_op op_mul (pv 1) (pv 3)) pe_int))
      (pss_cons (ps_set (i := 8) sc.nd rfl (by first | exact Or.inl rfl | exact Or.inr rfl) (pe_op op_add (pv 1) (pv 7)))
      (pss_cons (ps_if (pt_cmpR op_le (pv 8) (pv 5) (nomark _)) (pss_one (ps_ret (pe_tup (pa_cons (pv 7) (pa_cons (pv 8) (pa_cons pe_int pa_nil)))))) pss_nil)
      (pss_cons (ps_set (i := 9) sc.nd rfl (by first | exact Or.inl rfl | exact Or.inr rfl) (pe_op op_fdiv (pe_op op_mul (pv 8) (pv 4)) pe_int))
      (pss_cons (ps_if (pt_val (pv 6)) (pss_one (ps_set (i := 9) sc.nd rfl (by first | exact Or.inl rfl | exact Or.inr rfl) (pe_op op_add (pv 7) (pe_op op_fdiv (pe_op op_mul (pv 1) (pv 4)) pe_int)))) pss_nil)
      (pss_cons (ps_set (i := 9) sc.nd rfl (by first | exact Or.inl rfl | exact Or.inr rfl) (pe_callB (c_min2 rfl) (by rfl) T.b_min (by decide +kernel) (pa_cons (pv 8) (pa_cons (pe_op op_add (pe_callB (c_max2 rfl) (by rfl) T.b_max (by decide +kernel) (pa_cons (pv 5) (pa_cons (pv 9) pa_nil))) (pv 2)) pa_nil))))
      (pss_one (ps_ret (pe_tup (pa_cons (pv 7) (pa_cons (pv 9) (pa_cons (pe_op op_sub (pv 8) (pv 9)) pa_nil)))))))))))))), ?_⟩)
  obtain ⟨t, M, x, e, rfl, ok, ht, k⟩ := h
  have b1 := ok.r0
  have b2 := ok.r1
  have b3 := ok.s0
  have b4 := ok.s1
  have h2 : H t = some (.tup [.int M.r, .int M.s, .int M.m, .bl M.b]) := ht
  walk_at "rd"
  refine w_dec (fun hc => ?_) (fun hc => ?_)
  · walk_at "rd"
    refine r_kTup fun q H1 nq e1 hq => k q H1 nq e1 ?_
    have hc' : M.owed x ≤ M.m := hc
    unfold Pl.pay Pl.nxt
    rw [if_pos hc', if_pos hc']
    exact hq
  · have hc' : ¬ M.owed x ≤ M.m := hc
    have fin : ∀ z, M.want x = z → ∀ q H1, H q = none → Same H H1 → H1 q = some (.tup [.int (M.intr x), .int (min (M.owed x) (max M.m z + e)), .int (M.owed x - min (M.owed x) (max M.m z + e))]) → Q (.ref q) H1 := by
      intro z hz q H1 nq e1 hq
      refine k q H1 nq e1 ?_
      unfold Pl.pay Pl.nxt
      rw [if_neg hc', if_neg hc', hz]
      exact hq
    walk_at "rd"
    refine w_b (fun hb => ?_) (fun hb => ?_)
    · walk_at "rd"
      refine r_kTup fun q H1 nq e1 hq => fin _ ?_ q H1 nq e1 hq
      unfold Pl.want
      rw [if_pos hb]
      rfl
    · walk_at "rd"
      refine r_kTup fun q H1 nq e1 hq => fin _ ?_ q H1 nq e1 hq
      unfold Pl.want
      rw [if_neg (by rw [hb]; decide)]
      rfl
theorem ok__law_walk {f : Addr} {fd : FuncData} (T : Tx K mg) (F : FnP K "_law_walk" s__law_walk f fd) (d__law_step : Dn P w K mg base CX0 1 "_law_step" ["_law_parts_here", "_law_sum_here", "_law_more"] sp_step) :
    FnOk P w K mg base CX0 2 f fd ["_law_parts_here", "_law_sum_here", "_law_more", "_law_most"] sp_walk := by
  have sc : FnScope ["_law_parts_here", "_law_sum_here", "_law_more", "_law_most", "_law_found", "_law_turn", "_law_later"] ["_law_parts_here", "_law_sum_here", "_law_more", "_law_most"] (defScope s__law_walk) := ⟨rfl, rfl, rfl, by decide +kernel, rfl, by decide +kernel, by decide +kernel⟩
  refine F.ok sc (by rintro vs H Q E ⟨_, _, _, _, _, rfl, _⟩; rfl) (fun cdv A outer s H vs Q E hr h => ⟨_, PSs.nox ((pss_cons (ps_set (i := 4) sc.nd rfl (by first | exact Or.inl rfl | exact Or.inr rfl) (pe_lst (pa_cons (pv 1) pa_nil)))
      (pss_cons (ps_for PassesOwn.never rfl (pi_range1 (by rfl) T.b_range (pa_cons (pv 3) pa_nil)) (pg_name (i := 5) sc.nd rfl (by first | exact Or.inl rfl | exact Or.inr rfl)) (pss_cons (ps_set (i := 6) sc.nd rfl (by first | exact Or.inl rfl | exact Or.inr rfl) (pe_ix (ix_tupK (K := K) rfl) (pe_fn d__law_step (hr.mono (by decide)) pass0 (pa_cons (pv 0) (pa_cons (pe_ix (ix_listK (K := K) rfl) (pv 4) (pe_un un_neg pe_int) (fun _ _ => rfl)) (pa_cons (pv 2) pa_nil)))) pe_int (fun _ _ => rfl)))
      (pss_cons (ps_if (PW.pt (pw_or (pt_cmpR op_eq (pe_ix (ix_listK (K := K) rfl) (pv 4) (pe_un un_neg pe_int) (fun _ _ => rfl)) pe_int (nomark _)) (pw_or1 (pt_cmpR op_ge (pv 6) (pe_ix (ix_listK (K := K) rfl) (pv 4) (pe_un un_neg pe_int) (fun _ _ => rfl)) (nomark _))))) (pss_one (ps_ret (pv 4))) pss_nil)
      (pss_one (ps_expr (pe_bmK (K := K) rfl PySem.F.plainAttrs_list PySem.F.slot_list_append PySem.F.type_list_append mt_append (pv 4) (pa_cons (pv 6) pa_nil)))))))
      (pss_one (ps_ret (pv 4)))))), ?_⟩)
  obtain ⟨t, M, x, e, n, rfl, ok, ht, hx0, hn, k⟩ := h
  walk_at "rd"
  refine r_kLst fun u H1 nu e1 hu => ?_
  walk_at "rd"
  refine r_kForR1 (fun i σ' H' => ∃ (pre : List Int) (z : Int) (y1 y2 : Option V), σ' = [some (.ref t), some (.int x), some (.int e), some (.int (n : Int)), some (.ref u), y1, y2] ∧ Same H H' ∧ H' u = some (.lst ((pre ++ [z]).map V.int)) ∧
    i ≤ n ∧ pre ++ M.rowF e (n - i) z = M.rowF e n x ∧ 0 ≤ z ∧ pre.length ≤ i) (by omega) ⟨[], x, _, _, rfl, e1, hu, Nat.zero_le _, rfl, hx0, Nat.zero_le _⟩ ?_ ?_
  · rintro i σ' H' hi ⟨pre, z, y1, y2, rfl, e2, h2, hin, hrow, hz0, hlen⟩
    have hl : ∀ G : Hp, G u = some (.lst ((pre ++ [z]).map V.int)) → SqL K G u (pre.map V.int ++ [V.int z]) := fun G h => by
      rw [List.map_append] at h
      exact SqL.of h
    obtain ⟨m, hm⟩ : ∃ m, n - i = m + 1 := ⟨n - i - 1, by omega⟩
    have hm2 : n - (i + 1) = m := by omega
    rw [hm] at hrow
    walk_at "rd"
    refine r_ixL (hl _ h2) (at_last _ _) ?_
    walk_at "rd"
    refine ⟨t, M, z, e, rfl, ok, e2 _ _ ht, fun q H3 nq e3 hq => ?_⟩
    have h3 := e3 _ _ h2
    refine r_ixT (SqT.of hq) (at_get (n := 2) rfl rfl) ?_
    walk_at "rd"
    refine r_ixL (hl _ h3) (at_last _ _) ?_
    walk_at "rd"
    have stop : ¬ (0 < z ∧ M.nxt e z < z) → Q (.ref u) H3 := fun hc => by
      refine k u H3 nu (e2.trans e3) ?_
      rw [← hrow]
      simp only [Pl.rowF, if_neg hc]
      exact h3
    refine w_dec (fun hc => ?_) (fun hc => ?_)
    · walk_at "rd"
      exact stop (by omega)
    · walk_at "rd"
      refine r_ixL (hl _ h3) (at_last _ _) ?_
      walk_at "rd"
      refine w_dec (fun hd => ?_) (fun hd => ?_)
      · walk_at "rd"
        exact stop (by omega)
      · walk_at "rd"
        refine r_append h3 (by rw [List.length_map, List.length_append]; show pre.length + 1 < 1000000; omega) fun H4 b4 h4 => ?_
        have hn := M.nxt_nonneg e z
        refine ⟨pre ++ [z], M.nxt e z, _, _, rfl, Same.mut (e2.trans e3) b4 nu, ?_, by omega, ?_, hn, by rw [List.length_append]; show pre.length + 1 ≤ i + 1; omega⟩
        · rw [List.map_append]
          exact h4
        · have hc2 : 0 < z ∧ M.nxt e z < z := by omega
          rw [← hrow, hm2]
          simp only [Pl.rowF, if_pos hc2, List.append_assoc]
          rfl
  · rintro σ' H' ⟨pre, z, y1, y2, rfl, e2, h2, hin, hrow, hz0, hlen⟩
    walk_at "rd"
    refine k u H' nu e2 ?_
    have e0 : n - ((n : Int)).toNat = 0 := by omega
    rw [e0] at hrow
    rw [← hrow]
    exact h2
theorem ok__law_sum_drawn {f : Addr} {fd : FuncData} (T : Tx K mg) (F : FnP K "_law_sum_drawn" s__law_sum_drawn f fd)
    (d__law_take : Dn P w K mg base CX0 2 "_law_take" ["_law_state", "_law_size"] sp_take) (d__law_pick : Dn P w K mg base CX0 3 "_law_pick" ["_law_state", "_law_some"] sp_pick) :
    FnOk P w K mg base CX0 4 f fd ["_law_state", "_law_parts_here"] sp_sum_drawn := by
  have sc : FnScope ["_law_state", "_law_parts_here", "_law_near", "_law_some"] ["_law_state", "_law_parts_here"] (defScope s__law_sum_drawn) := ⟨rfl, rfl, rfl, by decide +kernel, rfl, by decide +kernel, by decide +kernel⟩
  refine F.ok sc (by rintro vs H Q E ⟨_, _, _, _, _, _, _, rfl, _⟩; rfl) (fun cdv A outer s H vs Q E hr h => ⟨_, PSs.nox ((pss_cons (ps_set (i := 2) sc.nd rfl (by first | exact Or.inl rfl | exact Or.inr rfl) (pe_op op_fdiv (pe_op op_mul pe_int (pe_ix (ix_tupK (K := K) rfl) (pv 1) pe_int (fun _ _ => rfl))) (pe_callB (c_max2 rfl) (by rfl) T.b_max (by decide +kernel) (pa_cons pe_int (pa_cons (pe_ix (ix_tupK (K := K) rfl) (pv 1) pe_int (fun _ _ => rfl)) pa_nil)))))
      (pss_cons (ps_set (i := 3) sc.nd rfl (by first | exact Or.inl rfl | exact Or.inr rfl) (pe_lst (pa_cons pe_int (pa_cons pe_int (pa_cons pe_int (pa_cons (pe_ix (ix_tupK (K := K) rfl) (pv 1) pe_int (fun _ _ => rfl)) (pa_cons (pe_op op_add (pe_ix (ix_tupK (K := K) rfl) (pv 1) pe_int (fun _ _ => rfl)) pe_int) (pa_cons (pe_op op_sub (pv 2) pe_int) (pa_cons (pv 2) (pa_cons (pe_op op_add (pv 2) pe_int) (pa_cons (pe_fn d__law_take (hr.mono (by decide)) pass0 (pa_cons (pv 0) (pa_cons pe_int pa_nil))) (pa_cons (pe_fn d__law_take (hr.mono (by decide)) pass0 (pa_cons (pv 0) (pa_cons pe_int pa_nil))) pa_nil))))))))))))
      (pss_one (ps_ret (pe_callB (c_max2 rfl) (by rfl) T.b_max (by decide +kernel) (pa_cons pe_int (pa_cons (pe_callB (c_min2 rfl) (by rfl) T.b_min (by decide +kernel) (pa_cons pe_int (pa_cons (pe_fn d__law_pick (hr.mono (by decide)) pass0 (pa_cons (pv 0) (pa_cons (pv 3) pa_nil))) pa_nil))) pa_nil)))))))), ?_⟩)
  obtain ⟨st, l, c, t, M, cs, B, rfl, ok, ht, hB, D, k⟩ := h
  have b1 := ok.r0
  have b2 := ok.r1
  have b3 := ok.m0
  have b4 := ok.m1
  have hs : ∀ (i : Nat) (v : V), [V.int M.r, V.int M.s, V.int M.m, V.bl M.b][i]? = some v → ∀ Q' : VK, Q' v H → rIxT K (.ref t) (.int (i : Int)) H Q' := fun i v hv Q' q => r_ixT (SqT.of ht) (atI_nat hv) q
  walk_at "rd"
  refine hs 2 _ rfl _ ?_
  walk_at "rd"
  refine hs 0 _ rfl _ ?_
  walk_at "rd"
  refine hs 2 _ rfl _ ?_
  walk_at "rd"
  refine hs 2 _ rfl _ ?_
  walk_at "rd"
  refine u_take D (by omega) (by decide) (by decide) fun a1 H1 a1l a1h D1 k1 => ?_
  walk_at "rd"
  refine u_take D1 (by omega) (by decide) (by decide) fun a2 H2 a2l a2h D2 k2 => ?_
  walk_at "rd"
  refine r_kLst fun p1 H3 np1 e3 hp1 => ?_
  walk_at "rd"
  refine u_pick D2 (by omega) np1 e3 hp1 (by simp) (by simp) fun i x H4 hx D4 k4 => ?_
  obtain ⟨x, rfl⟩ := AnyI.get (by walk_at "anyi") hx
  walk_at "rd"
  exact k _ H4 (by omega) (by omega) (D4.mono (by omega)) ((k1.trans k2).trans k4)
end
end Wp
set_option Elab.async false
set_option linter.all false
set_option maxRecDepth 100000
set_option maxHeartbeats 4000000
namespace Wp
open PySem PySem.Spec PyProof.Rows L2
abbrev s__law_long_right : Stmt := topS 25
abbrev s__law_is_number : Stmt := topS 31
abbrev s_law : Stmt := topS 32
local macro_rules | `(tactic| walk_at "val") => `(tactic| assumption)
local macro_rules | `(tactic| walk_at "rd1") => `(tactic| first
  | with_reducible refine r_seq ?_ | with_reducible refine r_next ?_ | with_reducible refine r_if ?_ | with_reducible refine r_asg ?_ | with_reducible refine r_gname ?_
  | with_reducible refine r_ret ?_ | with_reducible refine r_retN ?_ | with_reducible refine r_drop ?_ | with_reducible refine r_par ?_ | with_reducible refine r_kPar ?_
  | ((with_reducible refine' r_var ?hv ?_); (case hv => exact rfl)) | with_reducible refine r_c ?_ | with_reducible refine r_nil ?_ | with_reducible refine r_cons ?_
  | with_reducible refine r_fn ?_ | with_reducible refine r_cb ?_ | with_reducible refine r_op ?_ | with_reducible refine r_un ?_ | with_reducible refine r_I0 ?_
  | with_reducible refine r_pow5 ?_ | with_reducible refine r_pow6 ?_ | with_reducible refine r_pow7 ?_ | with_reducible refine r_pow9 ?_ | with_reducible refine r_pow18 ?_ | with_reducible refine r_pow20 ?_ | with_reducible refine r_pow30 ?_
  | with_reducible refine r_isN_non ?_ | with_reducible refine r_isN_ref ?_ | with_reducible refine r_isN_int ?_ | with_reducible refine r_isN_str ?_ | with_reducible refine r_isN_bl ?_ | with_reducible refine r_notN_non ?_ | with_reducible refine r_notN_ref ?_ | with_reducible refine r_notN_int ?_ | with_reducible refine r_notN_str ?_ | with_reducible refine r_notN_bl ?_
  | ((with_reducible refine r_I ?hc ?_); (case hc => walk_at "side")) | with_reducible refine r_U ?_
  | with_reducible refine r_eqI ?_ | with_reducible refine r_neI ?_ | with_reducible refine r_eqS ?_ | with_reducible refine r_neS ?_ | with_reducible refine r_eqB ?_ | with_reducible refine r_neB ?_
  | with_reducible refine r_chain ?_ | with_reducible refine r_test ?_ | with_reducible refine r_tB ?_ | with_reducible refine r_kTest ?_ | with_reducible refine r_not ?_
  | with_reducible refine r_and ?_ | with_reducible refine r_or ?_ | with_reducible refine r_tif ?_ | with_reducible refine r_andV ?_ | with_reducible refine r_orV ?_ | with_reducible refine r_notV ?_
  | with_reducible refine r_kAndV ?_ | with_reducible refine r_kOrV ?_ | with_reducible refine r_kNotV ?_
  | with_reducible refine w_T ?_ | with_reducible refine w_F ?_ | with_reducible refine w_NT ?_ | with_reducible refine w_NF ?_
  | with_reducible refine r_tup ?_ | with_reducible refine r_lst ?_ | with_reducible refine r_fld ?_ | with_reducible refine r_dget ?_ | with_reducible refine r_dput ?_ | with_reducible refine r_bm ?_
  | ((with_reducible refine' r_kDGetS ?h1 ?h2 ?_); (case h1 => assumption); (case h2 => walk_at "val"))
  | ((with_reducible refine' r_kBML ?h1 ?_); (case h1 => assumption))
  | with_reducible refine r_forL ?_ | with_reducible refine r_forR1 ?_ | with_reducible refine r_forR2 ?_ | with_reducible refine r_forT ?_ | with_reducible refine r_lcL ?_ | with_reducible refine r_lcR1 ?_
  | ((with_reducible refine r_kLcG ?hw ?_); (case hw => exact rfl)) | with_reducible refine r_kLcT ?_ | with_reducible refine r_yes ?_
  | with_reducible refine r_pnil ?_ | with_reducible refine r_pcons ?_
  | with_reducible refine r_fnK ?_ | ((with_reducible refine r_kFnK ?hl ?_); (case hl => exact rfl))
  | with_reducible refine r_isi_ii ?_ | with_reducible refine r_isi_ib ?_ | with_reducible refine r_isi_bi ?_ | with_reducible refine r_isi_bb ?_ | with_reducible refine r_isi_ss ?_ | with_reducible refine r_isi_is ?_ | with_reducible refine r_isi_it ?_
  | ((with_reducible refine' r_isi_tt ?h1 ?_); (case h1 => assumption))
  | with_reducible refine r_sfld ?_ | with_reducible refine r_gnil ?_ | with_reducible refine r_gcons ?_
  | ((with_reducible refine' r_gtup ?h1 ?h2 ?_); (case h1 => exact SqT.of (by assumption)); (case h2 => exact rfl))
  | with_reducible refine r_int1 ?_ | with_reducible refine r_int1b ?_ | with_reducible refine r_min2 ?_ | with_reducible refine r_max2 ?_)
local macro_rules | `(tactic| walk_at "rd") => `(tactic| repeat walk_at "rd1")
local macro_rules | `(tactic| walk_at "side") => `(tactic| first | assumption | exact Or.inr ⟨by decide, by decide⟩ | exact Or.inl ⟨by decide, by decide⟩ | (constructor <;> omega) | omega | decide | (refine Or.inl ⟨?_, ?_⟩ <;> omega) | (refine Or.inr ⟨?_, ?_⟩ <;> omega) | (refine ⟨?_, ?_, ?_⟩ <;> first | decide | omega))
local macro_rules | `(tactic| walk_at "ints") => `(tactic| repeat (first | exact trivial | refine ⟨⟨_, rfl, by first | omega | decide, by first | omega | decide⟩, ?_⟩))
/-- what is told, as data -/
def dEnd : Option (Int × Int) → PyData
  | none => .none
  | some q => .tuple [.int q.1, .int q.2]
def dEvd (M : Pl) (x : Int) : PyData := if Pl.lastOf (M.row 0 x) > 0 then .tuple [.str "never", .int (Pl.lastOf (M.row 0 x))] else .tuple [.str "ends", .list ((M.row 0 x).map .int)]
section
variable {K : PySem.W.Frag} {H0 H : Hp} {v : V} {M : Pl} {x : Int}
theorem EndV.dp {r : Option (Int × Int)} (h : EndV H0 H v r) : Dp K H v (dEnd r) := by
  cases r with
  | none =>
    obtain rfl : v = .non := h
    exact .non
  | some q =>
    obtain ⟨t, _, rfl, ht⟩ := h
    exact .tup (SqT.of ht) (.cons (.int _) (.cons (.int _) .nil))
theorem EvdV.dp (h : EvdV M x H0 H v) : Dp K H v (dEvd M x) := by
  obtain ⟨t, _, rfl, h⟩ := h
  unfold dEvd
  rcases h with ⟨h1, h2⟩ | ⟨h1, q, _, h2, h3⟩
  · rw [if_pos h1]
    exact .tup (SqT.of h2) (.cons (.str _) (.cons (.int _) .nil))
  · rw [if_neg h1]
    exact .tup (SqT.of h2) (.cons (.str _) (.cons (.lst (SqL.of h3) (dp_ints _)) .nil))
theorem shp_pair (a b : Int) : SeqAt.shaped (.tuple [.int a, .int b]) = true := by
  simp [SeqAt.shaped, PyData.canLay0, PyData.canLayAll0, PyData.depth, PyData.depthAll]
theorem shp_ends (ns : List Int) : SeqAt.shaped (.tuple [.str "ends", .list (ns.map .int)]) = true := by
  have h : PyData.strOk ("ends" : Str) = true := by decide +kernel
  simp [SeqAt.shaped, PyData.canLay0, PyData.canLayAll0, PyData.depth, PyData.depthAll, lay_ints, dep_ints, h]
end
def sp_long_right : Sp := fun vs H Q _ => ∃ (st l c : Addr) (cs : List Int) (B : Int), vs = [.ref st] ∧ B ≤ 17592186044416 ∧ DS st l c cs B H ∧
  ∀ (H' : Hp), DS st l c cs (B + 10) H' → Kp st l H H' → Q (.bl true) H'
section
variable {P : Program} {w : World} {K : PySem.W.Frag} {mg : Str → Option Value} {base : Heap}
theorem ok__law_is_number {f : Addr} {fd : FuncData} (T : Tx K mg) (F : FnP K "_law_is_number" s__law_is_number f fd) : FnOk P w K mg base CX0 1 f fd ["_law_thing"] (sp_is_number K) := by
  have sc : FnScope ["_law_thing"] ["_law_thing"] (defScope s__law_is_number) := ⟨rfl, rfl, rfl, by decide +kernel, rfl, by decide +kernel, by decide +kernel⟩
  refine F.ok sc (by rintro vs H Q E ⟨_, _, rfl, _⟩; rfl) (fun cdv A outer s H vs Q E hr h => ⟨_, PSs.nox ((pss_one (ps_ret (pe_and (pe_callB (c_isiK (K := K) rfl) (by rfl) T.b_isinstance (by decide +kernel) (pa_cons (pv 0) (pa_cons (pe_bltn (v := .ty "int") (by rfl) T.b_int (by decide +kernel) rfl) pa_nil))) (pe_one (pe_not (pe_callB (c_isiK (K := K) rfl) (by rfl) T.b_isinstance (by decide +kernel) (pa_cons (pv 0) (pa_cons (pe_bltn (v := .ty "bool") (by rfl) T.b_bool (by decide +kernel) rfl) pa_nil))))))))), ?_⟩)
  obtain ⟨x, o, rfl, hx, q⟩ := h
  walk_at "rd"
  cases hx with
  | int i =>
    walk_at "rd"
    exact q
  | @no _ t b1 b2 ht h1 h2 h3 =>
    refine r_isi (.ty "int") ht h1 ?_
    walk_at "rd"
    cases b1 with
    | false =>
      walk_at "rd"
      exact q
    | true =>
      walk_at "rd"
      refine r_isi (.ty "bool") ht h2 ?_
      walk_at "rd"
      have e : (!b2) = false := h3
      rw [e]
      exact q
theorem ok__law_long_right {f C : Addr} {fd : FuncData} (T : Tx K mg) (F : FnP K "_law_long_right" s__law_long_right f fd)
    (d__law_take : Dn P w K mg base CX0 2 "_law_take" ["_law_state", "_law_size"] sp_take) (d__law_pick : Dn P w K mg base CX0 3 "_law_pick" ["_law_state", "_law_some"] sp_pick)
    (mk_Plan : Dc P w K mg base CX0 3 "Plan" (sp_Plan C)) (d_ending : Dn P w K mg base CX0 4 "ending" ["plan", "balance"] (sp_ending C)) (d_evidence : Dn P w K mg base CX0 4 "evidence" ["plan", "balance"] (sp_evidence C)) :
    FnOk P w K mg base CX0 5 f fd ["_law_state"] sp_long_right := by
  have sc : FnScope ["_law_state", "_law_low", "_law_is_plus", "_law_sum_here", "_law_made"] ["_law_state"] (defScope s__law_long_right) := ⟨rfl, rfl, rfl, by decide +kernel, rfl, by decide +kernel, by decide +kernel⟩
  refine F.ok sc (by rintro vs H Q E ⟨_, _, _, _, _, rfl, _⟩; rfl) (fun cdv A outer s H vs Q E hr h => ⟨_, PSs.nox ((pss_cons (ps_par (i := 1) (j := 2) (by rfl) sc.nd rfl rfl (by decide) rfl rfl (pa_cons (pe_fn d__law_pick (hr.mono (by decide)) pass0 (pa_cons (pv 0) (pa_cons (pe_lst (pa_cons pe_int (pa_cons pe_int (pa_cons pe_int (pa_cons pe_int (pa_cons (pe_op op_add pe_int (pe_fn d__law_take (hr.mono (by decide)) pass0 (pa_cons (pv 0) (pa_cons pe_int pa_nil)))) pa_nil)))))) pa_nil))) (pa_cons (pe_cmpR op_eq (pe_fn d__law_take (hr.mono (by decide)) pass0 (pa_cons (pv 0) (pa_cons pe_int pa_nil))) pe_int (nomark _)) pa_nil)) (by rfl))
      (pss_cons (ps_set (i := 3) sc.nd rfl (by first | exact Or.inl rfl | exact Or.inr rfl) (pe_fn d__law_pick (hr.mono (by decide)) pass0 (pa_cons (pv 0) (pa_cons (pe_lst (pa_cons (pe_op op_pow pe_int pe_int) (pa_cons (pe_fn d__law_take (hr.mono (by decide)) pass0 (pa_cons (pv 0) (pa_cons (pe_op op_add (pe_op op_pow pe_int pe_int) pe_int) pa_nil))) (pa_cons (pe_fn d__law_take (hr.mono (by decide)) pass0 (pa_cons (pv 0) (pa_cons pe_int pa_nil))) pa_nil)))) pa_nil))))
      (pss_cons (ps_set (i := 4) sc.nd rfl (by first | exact Or.inl rfl | exact Or.inr rfl) (pe_mk mk_Plan (hr.mono (by decide)) pass0 (pa_cons pe_int (pa_cons pe_int (pa_cons (pv 1) (pa_cons (pv 2) pa_nil))))))
      (pss_cons (ps_if (pt_cmpR (neDK (K := K) rfl hr.units) (pe_fn d_ending (hr.mono (by decide)) pass0 (pa_cons (pv 4) (pa_cons (pv 3) pa_nil))) (pe_tup (pa_cons (pe_op op_fdiv (pe_op op_sub (pe_op op_add (pv 3) (pv 1)) pe_int) (pv 1)) (pa_cons pe_int pa_nil))) (nomark _)) (pss_one (ps_ret pe_bl)) pss_nil)
      (pss_one (ps_ret (pe_cmpR (eqDK (K := K) rfl hr.units) (pe_fn d_evidence (hr.mono (by decide)) pass0 (pa_cons (pv 4) (pa_cons (pv 3) pa_nil))) (pe_tup (pa_cons pe_str (pa_cons (pe_op op_cat (pe_listRg3 (by rfl) (by rfl) T.b_list (by rfl) T.b_range (pa_cons (pv 3) (pa_cons pe_int (pa_cons (pe_op op_sub pe_int (pv 1)) pa_nil)))) (pe_lst (pa_cons pe_int pa_nil))) pa_nil))) (nomark _))))))))), ?_⟩)
  obtain ⟨st, l, c, cs, B, rfl, hB, D, k⟩ := h
  walk_at "rd"
  refine u_take D (by omega) (by decide) (by decide) fun a1 H1 a1l a1h D1 k1 => ?_
  walk_at "rd"
  refine r_kLst fun p1 H2 np1 e2 hp1 => ?_
  walk_at "rd"
  refine u_pick D1 (by omega) np1 e2 hp1 (by simp) (by simp) fun i x H3 hx D3 k3 => ?_
  obtain ⟨m, rfl, m0, m1⟩ := IntsIn.get (lo := 1) (hi := 1000) (by walk_at "ints") hx
  walk_at "rd"
  refine u_take D3 (by omega) (by decide) (by decide) fun a2 H4 a2l a2h D4 k4 => ?_
  walk_at "rd"
  refine u_take D4 (by omega) (by decide) (by decide) fun a3 H5 a3l a3h D5 k5 => ?_
  walk_at "rd"
  refine u_take D5 (by omega) (by decide) (by decide) fun a4 H6 a4l a4h D6 k6 => ?_
  walk_at "rd"
  refine r_kLst fun p2 H7 np2 e7 hp2 => ?_
  walk_at "rd"
  refine u_pick D6 (by omega) np2 e7 hp2 (by simp) (by simp) fun j y H8 hy D8 k8 => ?_
  obtain ⟨x, rfl, x0, x1⟩ := IntsIn.get (lo := 0) (hi := 100000) (by walk_at "ints") hy
  walk_at "rd"
  have kk : Kp st l H H8 := ((((k1.trans k3).trans k4).trans k5).trans k6).trans k8
  have ok : (Pl.mk 0 0 m (decide (a2 = 0))).Ok := ⟨Int.le_refl 0, by show (0 : Int) ≤ 1000; decide, Int.le_refl 0, by show (0 : Int) ≤ 1000; decide, m0, by show m ≤ 1000000; omega⟩
  refine ⟨⟨0, 0, m, decide (a2 = 0)⟩, rfl, ok, fun p H9 np e9 hP => ?_⟩
  walk_at "rd"
  refine ⟨p, _, x, rfl, ok, hP, x0, x1, fun v H10 e10 hv => ?_⟩
  have dv := EndV.dp (K := K) hv
  rw [Pl.flat_end m0 x0] at dv
  walk_at "rd"
  refine r_kTup fun q H11 nq e11 hq => ?_
  refine r_neD_eq (Dp.mono e11 dv) (.tup (SqT.of hq) (.cons (.int _) (.cons (.int _) .nil))) (shp_pair _ _) ?_
  walk_at "rd"
  refine ⟨p, _, x, rfl, ok, hP.keep (e10.trans e11), x0, x1, fun v2 H12 e12 hv2 => ?_⟩
  have hrow := Pl.flat_row (b := decide (a2 = 0)) m0 x.toNat x (Nat.le_refl _) x0
  have hlast : ¬ Pl.lastOf ((Pl.mk 0 0 m (decide (a2 = 0))).row 0 x) > 0 := by
    rw [hrow, Pl.lastOf_app]
    decide
  have dv2 := EvdV.dp (K := K) hv2
  unfold dEvd at dv2
  rw [if_neg hlast] at dv2
  walk_at "rd"
  refine r_rg3 ?_
  walk_at "rd"
  have hq1 : (x + m - 1) / m ≤ x + m - 1 := Int.ediv_le_self _ (by omega)
  refine r_kRg3 (rgc_down x0 (by omega) m0 (by omega)) (by omega) fun p3 H13 np3 e13 hp3 => ?_
  walk_at "rd"
  refine r_kLst fun p4 H14 np4 e14 hp4 => ?_
  refine r_cat (e14 _ _ hp3) hp4 (by unfold rg3; rw [List.length_map, List.length_range]; show _ + 1 ≤ _; omega) fun p5 H15 np5 e15 hp5 => ?_
  walk_at "rd"
  refine r_kTup fun p6 H16 np6 e16 hp6 => ?_
  have hl5 : rg3 x (0 - m) ((x + m - 1) / m).toNat ++ [V.int 0] = ((Pl.mk 0 0 m (decide (a2 = 0))).row 0 x).map V.int := by
    rw [hrow, List.map_append, List.map_map]
    rfl
  rw [hl5] at hp5
  refine r_eqD_eq (Dp.mono (((e13.trans e14).trans e15).trans e16) dv2) (.tup (SqT.of hp6) (.cons (.str _) (.cons (.lst (SqL.of (e16 _ _ hp5)) (dp_ints _)) .nil))) (shp_ends _) ?_
  have ee : Same H8 H16 := ((((((e9.trans e10).trans e11).trans e12).trans e13).trans e14).trans e15).trans e16
  exact k H16 ((D8.mono (by omega)).keep ee) (kk.trans (Kp.of ee))
end
end Wp
set_option Elab.async false
set_option linter.all false
set_option maxRecDepth 100000
set_option maxHeartbeats 4000000
namespace Wp
open PySem PySem.Spec PyProof.Rows L2
local macro_rules | `(tactic| walk_at "val") => `(tactic| assumption)
local macro_rules | `(tactic| walk_at "rd1") => `(tactic| first
  | with_reducible refine r_seq ?_ | with_reducible refine r_next ?_ | with_reducible refine r_if ?_ | with_reducible refine r_asg ?_ | with_reducible refine r_gname ?_
  | with_reducible refine r_ret ?_ | with_reducible refine r_retN ?_ | with_reducible refine r_drop ?_ | with_reducible refine r_par ?_ | with_reducible refine r_kPar ?_
  | ((with_reducible refine' r_var ?hv ?_); (case hv => exact rfl)) | with_reducible refine r_c ?_ | with_reducible refine r_nil ?_ | with_reducible refine r_cons ?_
  | with_reducible refine r_fn ?_ | with_reducible refine r_cb ?_ | with_reducible refine r_op ?_ | with_reducible refine r_un ?_ | with_reducible refine r_I0 ?_
  | with_reducible refine r_pow5 ?_ | with_reducible refine r_pow6 ?_ | with_reducible refine r_pow7 ?_ | with_reducible refine r_pow9 ?_ | with_reducible refine r_pow18 ?_ | with_reducible refine r_pow20 ?_ | with_reducible refine r_pow30 ?_
  | with_reducible refine r_isN_non ?_ | with_reducible refine r_isN_ref ?_ | with_reducible refine r_isN_int ?_ | with_reducible refine r_isN_str ?_ | with_reducible refine r_isN_bl ?_ | with_reducible refine r_notN_non ?_ | with_reducible refine r_notN_ref ?_ | with_reducible refine r_notN_int ?_ | with_reducible refine r_notN_str ?_ | with_reducible refine r_notN_bl ?_
  | ((with_reducible refine r_I ?hc ?_); (case hc => walk_at "side")) | with_reducible refine r_U ?_
  | with_reducible refine r_eqI ?_ | with_reducible refine r_neI ?_ | with_reducible refine r_eqS ?_ | with_reducible refine r_neS ?_ | with_reducible refine r_eqB ?_ | with_reducible refine r_neB ?_
  | with_reducible refine r_chain ?_ | with_reducible refine r_test ?_ | with_reducible refine r_tB ?_ | with_reducible refine r_kTest ?_ | with_reducible refine r_not ?_
  | with_reducible refine r_and ?_ | with_reducible refine r_or ?_ | with_reducible refine r_tif ?_ | with_reducible refine r_andV ?_ | with_reducible refine r_orV ?_ | with_reducible refine r_notV ?_
  | with_reducible refine r_kAndV ?_ | with_reducible refine r_kOrV ?_ | with_reducible refine r_kNotV ?_
  | with_reducible refine w_T ?_ | with_reducible refine w_F ?_ | with_reducible refine w_NT ?_ | with_reducible refine w_NF ?_
  | with_reducible refine r_tup ?_ | with_reducible refine r_lst ?_ | with_reducible refine r_fld ?_ | with_reducible refine r_dget ?_ | with_reducible refine r_dput ?_ | with_reducible refine r_bm ?_
  | ((with_reducible refine' r_kDGetS ?h1 ?h2 ?_); (case h1 => assumption); (case h2 => walk_at "val"))
  | ((with_reducible refine' r_kBML ?h1 ?_); (case h1 => assumption))
  | with_reducible refine r_forL ?_ | with_reducible refine r_forR1 ?_ | with_reducible refine r_forR2 ?_ | with_reducible refine r_forT ?_ | with_reducible refine r_lcL ?_ | with_reducible refine r_lcR1 ?_
  | ((with_reducible refine r_kLcG ?hw ?_); (case hw => exact rfl)) | with_reducible refine r_kLcT ?_ | with_reducible refine r_yes ?_
  | with_reducible refine r_pnil ?_ | with_reducible refine r_pcons ?_
  | with_reducible refine r_fnK ?_ | ((with_reducible refine r_kFnK ?hl ?_); (case hl => exact rfl))
  | with_reducible refine r_isi_ii ?_ | with_reducible refine r_isi_ib ?_ | with_reducible refine r_isi_bi ?_ | with_reducible refine r_isi_bb ?_ | with_reducible refine r_isi_ss ?_ | with_reducible refine r_isi_is ?_ | with_reducible refine r_isi_it ?_
  | ((with_reducible refine' r_isi_tt ?h1 ?_); (case h1 => assumption))
  | with_reducible refine r_sfld ?_ | with_reducible refine r_gnil ?_ | with_reducible refine r_gcons ?_
  | ((with_reducible refine' r_gtup ?h1 ?h2 ?_); (case h1 => exact SqT.of (by assumption)); (case h2 => exact rfl))
  | with_reducible refine r_int1 ?_ | with_reducible refine r_int1b ?_ | with_reducible refine r_min2 ?_ | with_reducible refine r_max2 ?_)
local macro_rules | `(tactic| walk_at "rd") => `(tactic| repeat walk_at "rd1")
local macro_rules | `(tactic| walk_at "side") => `(tactic| first | assumption | exact Or.inr ⟨by decide, by decide⟩ | exact Or.inl ⟨by decide, by decide⟩ | (constructor <;> omega) | omega | decide | (refine Or.inl ⟨?_, ?_⟩ <;> omega) | (refine Or.inr ⟨?_, ?_⟩ <;> omega) | (refine ⟨?_, ?_, ?_⟩ <;> first | decide | omega))
def spLaw (K : PySem.W.Frag) : Sp := fun vs H Q _ => ∃ (a : Addr) (cs : List Int), vs = [.ref a] ∧ SqL K H a (cs.map V.int) ∧ cs.length ≤ 63 ∧ ∀ H', Q (.bl true) H'
section
variable {K : PySem.W.Frag} {H : Hp} {M : Pl} {x : Int}
theorem sm_end (ok : M.Ok) (h0 : 0 ≤ x) (h1 : x ≤ 100000) : smI (dEnd (M.endR x)) = true := by
  unfold Pl.endR
  split
  · rfl
  · have hl := Pl.row_len (P := M) (e := 0) x
    have ⟨b1, b2⟩ := Pl.sum_bd ok (m := x) (M.row 0 x) fun y hy => Pl.row_mem h0 hy
    have b3 : x * ((M.row 0 x).length : Int) ≤ 100000 * 100001 := Int.mul_le_mul h1 (by omega) (by omega) (by omega)
    simp only [dEnd, smI, smAll, Bool.and_true, Bool.and_eq_true, decide_eq_true_eq]
    constructor
    · have : (((M.row 0 x).length : Int) - 1).natAbs ≤ 100001 := by omega
      exact Nat.lt_of_le_of_lt this (by decide)
    · have : (((M.row 0 x).map M.intr).sum).natAbs ≤ 10000100000 := by omega
      exact Nat.lt_of_le_of_lt this (by decide)
theorem dep_end (r : Option (Int × Int)) : (dEnd r).depth ≤ 1 := by
  cases r <;> simp [dEnd, PyData.depth, PyData.depthAll]
theorem wz_end (r : Option (Int × Int)) : wz (dEnd r) ≤ 200 := by
  cases r <;> simp [dEnd, wz, wzAll]
theorem sm_row (h0 : 0 ≤ x) (h1 : x ≤ 100000) : smAll ((M.row 0 x).map .int) = true := sm_ints fun y hy => by
  have := Pl.row_mem h0 hy
  have h2 : y.natAbs ≤ 100000 := by omega
  exact Nat.lt_of_le_of_lt h2 (by decide)
end
theorem SqL.kp {K : PySem.W.Frag} {st l a : Addr} {H H1 H2 : Hp} {xs : List V} (h : SqL K H a xs) (e : Same H H1) (n1 : H st = none) (n2 : H l = none) (k : Kp st l H1 H2) : SqL K H2 a xs := by
  rcases h with (h | ⟨o, h⟩) | h
  · exact .inl (.inl (k _ _ (e _ _ h) (ne_of_none h n1) (ne_of_none h n2)))
  · exact .inl (.inr ⟨o, k _ _ (e _ _ h) (ne_of_none h n1) (ne_of_none h n2)⟩)
  · exact .inr h
section
variable {P : Program} {w : World} {K : PySem.W.Frag} {mg : Str → Option Value} {base : Heap}
theorem ok_law {f C : Addr} {fd : FuncData} (T : Tx K mg) (F : FnP K "law" s_law f fd)
    (d__law_begun : Dn P w K mg base CX0 1 "_law_begun" ["_law_script"] (sp_begun K)) (d__law_long_right : Dn P w K mg base CX0 5 "_law_long_right" ["_law_state"] sp_long_right)
    (d__law_parts : Dn P w K mg base CX0 4 "_law_parts" ["_law_state"] sp_parts) (d__law_planned : Dn P w K mg base CX0 5 "_law_planned" ["_law_parts_here"] (sp_planned C))
    (d__law_sum_drawn : Dn P w K mg base CX0 4 "_law_sum_drawn" ["_law_state", "_law_parts_here"] sp_sum_drawn)
    (d__law_walk : Dn P w K mg base CX0 2 "_law_walk" ["_law_parts_here", "_law_sum_here", "_law_more", "_law_most"] sp_walk)
    (d__law_step : Dn P w K mg base CX0 1 "_law_step" ["_law_parts_here", "_law_sum_here", "_law_more"] sp_step) (d__law_is_number : Dn P w K mg base CX0 1 "_law_is_number" ["_law_thing"] (sp_is_number K))
    (d_ending : Dn P w K mg base CX0 4 "ending" ["plan", "balance"] (sp_ending C)) (d_evidence : Dn P w K mg base CX0 4 "evidence" ["plan", "balance"] (sp_evidence C))
    (k_ending_balance_plan : Dq P w K mg base CX0 4 "ending" ["balance", "plan"] swap2 (sp_ending C)) (k_evidence_balance_plan : Dq P w K mg base CX0 4 "evidence" ["balance", "plan"] swap2 (sp_evidence C)) :
    FnG P w K mg base CX0 6 f fd ["_law_script"] (spLaw K) := by
  have sc : FnScope ["_law_script", "_law_state", "_law_turn", "_law_parts_here", "_law_made", "_law_lap", "_law_sum_here", "_law_row", "_law_due", "_law_found", "_law_left"] ["_law_script"] (defScope s_law) := ⟨rfl, rfl, rfl, by decide +kernel, rfl, by decide +kernel, by decide +kernel⟩
  refine F.okG sc (by rintro vs H Q E ⟨_, _, rfl, _⟩; rfl) (fun cdv A outer s H vs Q E hr hG h => ⟨_, PSs.nox ((pss_cons (ps_set (i := 1) sc.nd rfl (by first | exact Or.inl rfl | exact Or.inr rfl) (pe_fn d__law_begun (hr.mono (by decide)) pass0 (pa_cons (pv 0) pa_nil)))
      (pss_cons (ps_if (pt_not (pt_val (pe_fn d__law_long_right (hr.mono (by decide)) pass0 (pa_cons (pv 1) pa_nil)))) (pss_one (ps_ret pe_bl)) pss_nil)
      (pss_cons (ps_for PassesOwn.never rfl (pi_range1 (by rfl) T.b_range (pa_cons (pe_op op_add pe_int (pe_callB (c_min2 rfl) (by rfl) T.b_min (by decide +kernel) (pa_cons (pe_callB (c_lenK (K := K) rfl) (by rfl) T.b_len (by decide +kernel) (pa_cons (pv 0) pa_nil)) (pa_cons pe_int pa_nil)))) pa_nil)) (pg_name (i := 2) sc.nd rfl (by first | exact Or.inl rfl | exact Or.inr rfl)) (pss_cons (ps_set (i := 3) sc.nd rfl (by first | exact Or.inl rfl | exact Or.inr rfl) (pe_fn d__law_parts (hr.mono (by decide)) pass0 (pa_cons (pv 1) pa_nil)))
      (pss_cons (ps_set (i := 4) sc.nd rfl (by first | exact Or.inl rfl | exact Or.inr rfl) (pe_fn d__law_planned (hr.mono (by decide)) pass0 (pa_cons (pv 3) pa_nil)))
      (pss_one (ps_for PassesOwn.never rfl (pi_range1 (by rfl) T.b_range (pa_cons pe_int pa_nil)) (pg_name (i := 5) sc.nd rfl (by first | exact Or.inl rfl | exact Or.inr rfl)) (pss_cons (ps_set (i := 6) sc.nd rfl (by first | exact Or.inl rfl | exact Or.inr rfl) (pe_fn d__law_sum_drawn (hr.mono (by decide)) pass0 (pa_cons (pv 1) (pa_cons (pv 3) pa_nil))))
      (pss_cons (ps_set (i := 7) sc.nd rfl (by first | exact Or.inl rfl | exact Or.inr rfl) (pe_fn d__law_walk (hr.mono (by decide)) pass0 (pa_cons (pv 3) (pa_cons (pv 6) (pa_cons pe_int (pa_cons pe_int pa_nil))))))
      (pss_cons (ps_set (i := 8) sc.nd rfl (by first | exact Or.inl rfl | exact Or.inr rfl) pe_non)
      (Evl.pss_cut (ps_if (pt_cmpR op_eq (pe_ix (ix_listK (K := K) rfl) (pv 7) (pe_un un_neg pe_int) (fun _ _ => rfl)) pe_int (nomark _)) (pss_one (ps_set (i := 8) sc.nd rfl (by first | exact Or.inl rfl | exact Or.inr rfl) (pe_tup (pa_cons (pe_op op_sub (pe_callB (c_lenK (K := K) rfl) (by rfl) T.b_len (by decide +kernel) (pa_cons (pv 7) pa_nil)) pe_int) (pa_cons (pe_callB (c_sumK (K := K) rfl rfl) (by rfl) T.b_sum (by decide +kernel) (pa_cons (pe_lc (own := [("_law_left", 10)]) (by rfl) sc.nd (pi_listK (K := K) rfl (pv 7)) (blkOk_by (own := [("_law_left", 10)]) (N := ["_law_script", "_law_state", "_law_turn", "_law_parts_here", "_law_made", "_law_lap", "_law_sum_here", "_law_row", "_law_due", "_law_found", "_law_left"]) (sc := defScope s_law) (by decide +kernel)) (fun _ _ _ _ _ => (pg_name (i := 10) sc.nd rfl (by first | exact Or.inl rfl | exact Or.inr rfl))) (fun _ _ _ _ _ => pts_nil) (fun _ _ _ _ _ => (pe_ix (ix_tupK (K := K) rfl) (pe_fn d__law_step (hr.mono (by decide)) pass0 (pa_cons (pv 3) (pa_cons (pv 10) (pa_cons pe_int pa_nil)))) pe_int (fun _ _ => rfl)))) pa_nil)) pa_nil))))) pss_nil)
      (pss_cons (ps_if (pt_cmpR op_ne (pe_callB (c_reprK (K := K) rfl hG hr) (by rfl) T.b_repr (by decide +kernel) (pa_cons (pe_lst (pa_cons (pe_fn d_ending (hr.mono (by decide)) pass0 (pa_cons (pv 4) (pa_cons (pv 6) pa_nil))) (pa_cons (pe_fnK0 k_ending_balance_plan (hr.mono (by decide)) pass0 (pk_cons (pv 6) (pk_cons (pv 4) pk_nil))) pa_nil))) pa_nil)) (pe_callB (c_reprK (K := K) rfl hG hr) (by rfl) T.b_repr (by decide +kernel) (pa_cons (pe_lst (pa_cons (pv 8) (pa_cons (pv 8) pa_nil))) pa_nil)) (nomark _)) (pss_one (ps_ret pe_bl)) pss_nil)
      (pss_cons (ps_set (i := 9) sc.nd rfl (by first | exact Or.inl rfl | exact Or.inr rfl) (pe_fn d_evidence (hr.mono (by decide)) pass0 (pa_cons (pv 4) (pa_cons (pv 6) pa_nil))))
      (pss_one (ps_if (pt_cmpR op_notN1 (pv 8) pe_non (nomark _)) (pss_cons (ps_if (pt_cmpR op_ne (pe_callB (c_reprK (K := K) rfl hG hr) (by rfl) T.b_repr (by decide +kernel) (pa_cons (pv 9) pa_nil)) (pe_callB (c_reprK (K := K) rfl hG hr) (by rfl) T.b_repr (by decide +kernel) (pa_cons (pe_tup (pa_cons pe_str (pa_cons (pv 7) pa_nil))) pa_nil)) (nomark _)) (pss_one (ps_ret pe_bl)) pss_nil)
      (pss_cons (ps_expr (pe_bmK (K := K) rfl PySem.F.plainAttrs_list PySem.F.slot_list_append PySem.F.type_list_append mt_append (pe_ix (ix_tupK (K := K) rfl) (pv 9) pe_int (fun _ _ => rfl)) (pa_cons pe_non pa_nil)))
      (pss_one (ps_if (pt_cmpR op_ne (pe_callB (c_reprK (K := K) rfl hG hr) (by rfl) T.b_repr (by decide +kernel) (pa_cons (pe_fnK0 k_evidence_balance_plan (hr.mono (by decide)) pass0 (pk_cons (pv 6) (pk_cons (pv 4) pk_nil))) pa_nil)) (pe_callB (c_reprK (K := K) rfl hG hr) (by rfl) T.b_repr (by decide +kernel) (pa_cons (pe_tup (pa_cons pe_str (pa_cons (pv 7) pa_nil))) pa_nil)) (nomark _)) (pss_one (ps_ret pe_bl)) pss_nil)))) (pss_one (ps_if (PW.pt (pw_or (pt_not (pt_val (pe_callB (c_isiK (K := K) rfl) (by rfl) T.b_isinstance (by decide +kernel) (pa_cons (pv 9) (pa_cons (pe_bltn (v := .ty "tuple") (by rfl) T.b_tuple (by decide +kernel) rfl) pa_nil))))) (pw_or (pt_cmpR op_ne (pe_callB (c_lenK (K := K) rfl) (by rfl) T.b_len (by decide +kernel) (pa_cons (pv 9) pa_nil)) pe_int (nomark _)) (pw_or (pt_cmpR op_ne (pe_ix (ix_tupK (K := K) rfl) (pv 9) pe_int (fun _ _ => rfl)) pe_str (nomark _)) (pw_or1 (pt_not (pt_val (pe_fn d__law_is_number (hr.mono (by decide)) pass0 (pa_cons (pe_ix (ix_tupK (K := K) rfl) (pv 9) pe_int (fun _ _ => rfl)) pa_nil))))))))) (pss_one (ps_ret pe_bl)) (pss_one (ps_if (PW.pt (pw_or (pt_not (pt_chain op_le op_le pe_int (pe_ix (ix_tupK (K := K) rfl) (pv 9) pe_int (fun _ _ => rfl)) (pv 6))) (pw_or1 (pt_cmpR op_lt (pe_ix (ix_tupK (K := K) rfl) (pe_fn d__law_step (hr.mono (by decide)) pass0 (pa_cons (pv 3) (pa_cons (pe_ix (ix_tupK (K := K) rfl) (pv 9) pe_int (fun _ _ => rfl)) (pa_cons pe_int pa_nil)))) pe_int (fun _ _ => rfl)) (pe_ix (ix_tupK (K := K) rfl) (pv 9) pe_int (fun _ _ => rfl)) (nomark _))))) (pss_one (ps_ret pe_bl)) pss_nil)))))))))))))))))
      (pss_one (ps_ret pe_bl)))))), ?_⟩)
  obtain ⟨a, cs, rfl, hS, hlen, k⟩ := h
  walk_at "rd"
  refine ⟨a, cs, rfl, hS, hlen, fun st l c H1 nst nl nc e1 D1 => ?_⟩
  walk_at "rd"
  refine ⟨st, l, c, cs, 0, rfl, by decide, D1, fun H2 D2 k2 => ?_⟩
  walk_at "rd"
  have hS2 : SqL K H2 a (cs.map V.int) := SqL.kp hS e1 nst nl k2
  refine r_lenL hS2 ?_
  walk_at "rd"
  refine r_kForR1 (fun i σ' H' => ∃ (x2 x3 x4 x5 x6 x7 x8 x9 x10 : Option V), σ' = [some (.ref a), some (.ref st), x2, x3, x4, x5, x6, x7, x8, x9, x10] ∧ DS st l c cs (10 + 100 * (i : Int)) H') (by rw [List.length_map]; omega) ⟨_, _, _, _, _, _, _, _, _, rfl, D2.mono (by omega)⟩ ?_ ?_
  · rintro i σ' H3 hi ⟨x2, x3, x4, x5, x6, x7, x8, x9, x10, rfl, D3⟩
    have hi2 : (i : Int) ≤ 100 := by
      rw [List.length_map] at hi
      omega
    walk_at "rd"
    refine ⟨st, l, c, cs, _, rfl, by omega, D3, fun t M H4 nt ok m3 ht D4 k4 => ?_⟩
    walk_at "rd"
    refine ⟨t, M, rfl, ok, ht, fun p H5 np e5 hP => ?_⟩
    walk_at "rd"
    refine r_kForR1 (fun j σ' H' => ∃ (x5 x6 x7 x8 x9 x10 : Option V), σ' = [some (.ref a), some (.ref st), some (.int (i : Int)), some (.ref t), some (.ref p), x5, x6, x7, x8, x9, x10] ∧ DS st l c cs (10 + 100 * (i : Int) + 12 + 3 * (j : Int)) H' ∧ PartsAt H' t M ∧ PlanAt C H' p M) (by decide)
      ⟨_, _, _, _, _, _, rfl, (D4.keep e5).mono (by omega), e5 _ _ ht, hP⟩ ?_ ?_
    · rintro j σ' H6 hj ⟨y5, y6, y7, y8, y9, y10, rfl, D6, ht6, hP6⟩
      walk_at "rd"
      refine ⟨st, l, c, t, M, cs, _, rfl, ok, ht6, by omega, D6, fun x H7 x0 x1 D7 k7 => ?_⟩
      have ht7 : PartsAt H7 t M := Kp.tup k7 D6 ht6
      have hP7 : PlanAt C H7 p M := by
        obtain ⟨_, _, _, _, _, hd⟩ := D6.d
        obtain ⟨_, _, hl⟩ := D6.lg
        exact hP6.kp k7 hd hl
      walk_at "rd"
      refine ⟨t, M, x, 0, 30000, rfl, ok, ht7, x0, by decide, fun u H8 nu e8 hu => ?_⟩
      rw [Pl.rowF_row (show x.toNat ≤ 30000 by omega)] at hu
      obtain ⟨pre, z, hrow, hz0, hzx, hzn⟩ := Pl.row_last (P := M) (e := 0) x.toNat x (Nat.le_refl _) x0
      have hlast : Pl.lastOf (M.row 0 x) = z := by rw [hrow, Pl.lastOf_app]
      have hrl := Pl.row_len (P := M) (e := 0) x
      have hl : ∀ G : Hp, G u = some (.lst ((M.row 0 x).map V.int)) → SqL K G u (pre.map V.int ++ [V.int z]) := fun G h => by
        rw [hrow, List.map_append] at h
        exact SqL.of h
      walk_at "rd"
      refine r_cut (fun σ' H' => ∃ (vd : V) (y10 : Option V), σ' = [some (.ref a), some (.ref st), some (.int (i : Int)), some (.ref t), some (.ref p), some (.int (j : Int)), some (.int x), some (.ref u), some vd, y9, y10] ∧ Same H8 H' ∧ EndV H8 H' vd (M.endR x)) ?_ ?_
      · walk_at "rd"
        refine r_ixL (hl _ hu) (at_last _ _) ?_
        walk_at "rd"
        refine w_dec (fun hc => ?_) (fun hc => ?_)
        · walk_at "rd"
          refine r_lenL (SqL.of hu) ?_
          walk_at "rd"
          refine r_kLcL (xs := (M.row 0 x).map V.int) (fun Da i H' => Same H8 H' ∧ H' Da = some (.lst ((((M.row 0 x).take i).map M.intr).map V.int))) (SqL.of hu) (fun Da H' _ e h => ⟨e, h⟩) (fun Da i H' ⟨e, _⟩ => SqL.of (e _ _ hu)) ?_ ?_
          · rintro Da i' y H' hD hy ⟨e2, h2⟩
            obtain ⟨y, rfl, hy2⟩ := ints_get hy
            walk_at "rd"
            refine ⟨t, M, y, 0, rfl, ok, e2 _ _ (e8 _ _ ht7), fun q H3 nq e3 hq => ?_⟩
            refine r_ixT (SqT.of hq) (at_get (n := 0) rfl rfl) ?_
            refine r_kLcE (e3 _ _ h2) (by rw [List.length_map, List.length_map, List.length_take]; omega) fun H4 b4 h4 => ⟨Same.mut (e2.trans e3) b4 hD, ?_⟩
            rw [take_more hy2, List.map_append, List.map_append]
            exact h4
          · rintro Da H9 hD ⟨e9, h9⟩
            rw [List.length_map, List.take_length] at h9
            walk_at "rd"
            refine r_sum (SqL.of h9) ?_
            walk_at "rd"
            refine r_kTup fun q H10 nq e10 hq => ?_
            refine ⟨.ref q, _, rfl, e9.trans e10, ?_⟩
            unfold Pl.endR
            rw [if_neg (by rw [hlast]; omega)]
            refine ⟨q, e9.free nq, rfl, ?_⟩
            rw [List.length_map] at hq
            exact hq
        · walk_at "rd"
          refine ⟨.non, _, rfl, Same.refl _, ?_⟩
          unfold Pl.endR
          rw [if_pos (by rw [hlast]; omega)]
          rfl
      · rintro σ' H9 ⟨vd, z10, rfl, e9, hvd⟩
        have hP9 := hP7.keep (e8.trans e9)
        have x2' : x ≤ 100000 := by omega
        walk_at "rd"
        refine ⟨p, M, x, rfl, ok, hP9, x0, x2', fun v1 H10 e10 hv1 => ?_⟩
        walk_at "rd"
        refine ⟨p, M, x, rfl, ok, hP9.keep e10, x0, x2', fun v2 H11 e11 hv2 => ?_⟩
        walk_at "rd"
        refine r_kLst fun q1 H12 nq1 e12 hq1 => ?_
        walk_at "rd"
        have sme := sm_end ok x0 x2'
        have dpe := dep_end (M.endR x)
        have wze := wz_end (M.endR x)
        have hsm : smI (.list [dEnd (M.endR x), dEnd (M.endR x)]) = true := by simp [smI, smAll, sme]
        have hdp : (PyData.list [dEnd (M.endR x), dEnd (M.endR x)]).depth ≤ 60 := by
          simp only [PyData.depth, PyData.depthAll]
          omega
        have hwz : wz (.list [dEnd (M.endR x), dEnd (M.endR x)]) ≤ 16777216 := by
          simp only [wz, wzAll]
          omega
        refine r_repr (d := .list [dEnd (M.endR x), dEnd (M.endR x)]) (.lst (SqL.of hq1) (.cons (Dp.mono (e11.trans e12) hv1.dp) (.cons (Dp.mono e12 hv2.dp) .nil))) hsm hdp hwz ?_
        walk_at "rd"
        refine r_kLst fun q2 H13 nq2 e13 hq2 => ?_
        walk_at "rd"
        have dvd : Dp K H13 vd (dEnd (M.endR x)) := Dp.mono (((e10.trans e11).trans e12).trans e13) hvd.dp
        refine r_repr (d := .list [dEnd (M.endR x), dEnd (M.endR x)]) (.lst (SqL.of hq2) (.cons dvd (.cons dvd .nil))) hsm hdp hwz ?_
        walk_at "rd"
        refine w_ndec (fun hne => absurd rfl hne) (fun _ => ?_)
        walk_at "rd"
        have e813 : Same H8 H13 := (((e9.trans e10).trans e11).trans e12).trans e13
        refine ⟨p, M, x, rfl, ok, hP9.keep (((e10.trans e11).trans e12).trans e13), x0, x2', fun v3 H14 e14 hv3 => ?_⟩
        have fin : ∀ (G : Hp) (y8 y9 y10 : Option V), Same H13 G → ∃ (x5 x6 x7 x8 x9 x10 : Option V), [some (V.ref a), some (.ref st), some (.int (i : Int)), some (.ref t), some (.ref p), some (.int (j : Int)), some (.int x), some (.ref u), y8, y9, y10] =
            [some (.ref a), some (.ref st), some (.int (i : Int)), some (.ref t), some (.ref p), x5, x6, x7, x8, x9, x10] ∧ DS st l c cs (10 + 100 * (i : Int) + 12 + 3 * ((j + 1 : Nat) : Int)) G ∧ PartsAt G t M ∧ PlanAt C G p M := fun G y8 y9 y10 eG =>
          have e7 : Same H7 G := (e8.trans e813).trans eG
          ⟨_, _, _, _, _, _, rfl, (D7.keep e7).mono (by omega), e7 _ _ ht7, hP7.keep e7⟩
        obtain ⟨t3, nt3, rfl, hv⟩ := id hv3
        rcases hv with ⟨hc, h3⟩ | ⟨hc, q, nq, h3, h4⟩
        · have hnone : M.endR x = none := by
            unfold Pl.endR
            rw [if_pos hc]
          rw [hnone] at hvd
          obtain rfl : vd = .non := hvd
          rw [hlast] at h3 hc
          walk_at "rd"
          refine r_lenT (SqT.of h3) ?_
          walk_at "rd"
          refine w_ndec (fun hne => absurd rfl hne) (fun _ => ?_)
          walk_at "rd"
          refine r_ixT (SqT.of h3) (at_get (n := 0) rfl rfl) ?_
          walk_at "rd"
          refine w_ndec (fun hne => absurd rfl hne) (fun _ => ?_)
          walk_at "rd"
          refine r_ixT (SqT.of h3) (at_get (n := 1) rfl rfl) ?_
          walk_at "rd"
          refine ⟨_, _, rfl, .int z, ?_⟩
          walk_at "rd"
          refine w_no rfl ?_
          walk_at "rd"
          refine r_ixT (SqT.of h3) (at_get (n := 1) rfl rfl) ?_
          walk_at "rd"
          refine r_kChain (fun _ => ?_) (fun hf => absurd (of_decide_eq_false hf) (by omega))
          walk_at "rd"
          refine w_no (by rw [decide_eq_true (by omega)]; rfl) ?_
          walk_at "rd"
          refine r_ixT (SqT.of h3) (at_get (n := 1) rfl rfl) ?_
          walk_at "rd"
          refine ⟨t, M, z, 0, rfl, ok, e14 _ _ (e813 _ _ (e8 _ _ ht7)), fun q H15 nq e15 hq => ?_⟩
          walk_at "rd"
          refine r_ixT (SqT.of hq) (at_get (n := 2) rfl rfl) ?_
          walk_at "rd"
          refine r_ixT (SqT.of (e15 _ _ h3)) (at_get (n := 1) rfl rfl) ?_
          walk_at "rd"
          refine w_dec (fun hlt => absurd hlt (by omega)) (fun _ => ?_)
          walk_at "rd"
          exact fin H15 _ _ _ (e14.trans e15)
        · obtain ⟨r, hsome⟩ : ∃ r, M.endR x = some r := by
            unfold Pl.endR
            rw [if_neg hc]
            exact ⟨_, rfl⟩
          rw [hsome] at hvd
          obtain ⟨td, _, rfl, _⟩ := hvd
          have dE : dEvd M x = .tuple [.str "ends", .list ((M.row 0 x).map .int)] := by
            unfold dEvd
            rw [if_neg hc]
          have hstr : (("ends" : Str).cps.toList.all fun c => decide (c < 16 ^ 8)) = true := by decide +kernel
          have hsz : ("ends" : Str).cps.size = 4 := by decide +kernel
          have smd : smI (.tuple [.str "ends", .list ((M.row 0 x).map .int)]) = true := by
            simp only [smI, smAll, hstr, sm_row x0 x2', Bool.and_self]
          have dpd : (PyData.tuple [.str "ends", .list ((M.row 0 x).map .int)]).depth ≤ 60 := by
            simp only [PyData.depth, PyData.depthAll, dep_ints]
            omega
          have wzd : wz (.tuple [.str "ends", .list ((M.row 0 x).map .int)]) ≤ 16777216 := by
            simp only [wz, wzAll, wz_ints, hsz]
            omega
          have hu14 := e14 _ _ (e813 _ _ hu)
          walk_at "rd"
          refine r_repr (by rw [← dE]; exact hv3.dp) smd dpd wzd ?_
          walk_at "rd"
          refine r_kTup fun q5 H15 nq5 e15 hq5 => ?_
          walk_at "rd"
          refine r_repr (.tup (SqT.of hq5) (.cons (.str _) (.cons (.lst (SqL.of (e15 _ _ hu14)) (dp_ints _)) .nil))) smd dpd wzd ?_
          walk_at "rd"
          refine w_ndec (fun hne => absurd rfl hne) (fun _ => ?_)
          walk_at "rd"
          refine r_ixT (SqT.of (e15 _ _ h3)) (at_get (n := 1) rfl rfl) ?_
          have h4' := e15 _ _ h4
          walk_at "rd"
          refine r_append h4' (by rw [List.length_map]; omega) fun H16 b16 h16 => ?_
          have e16 : Same H13 H16 := Same.mut (e14.trans e15) b16 nq
          walk_at "rd"
          refine ⟨p, M, x, rfl, ok, hP9.keep ((((e10.trans e11).trans e12).trans e13).trans e16), x0, x2', fun v5 H17 e17 hv5 => ?_⟩
          walk_at "rd"
          refine r_repr (by rw [← dE]; exact hv5.dp) smd dpd wzd ?_
          walk_at "rd"
          refine r_kTup fun q6 H18 nq6 e18 hq6 => ?_
          walk_at "rd"
          have hu18 := e18 _ _ (e17 _ _ (e16 _ _ (e813 _ _ hu)))
          refine r_repr (.tup (SqT.of hq6) (.cons (.str _) (.cons (.lst (SqL.of hu18) (dp_ints _)) .nil))) smd dpd wzd ?_
          walk_at "rd"
          refine w_ndec (fun hne => absurd rfl hne) (fun _ => ?_)
          walk_at "rd"
          exact fin H18 _ _ _ ((e16.trans e17).trans e18)
    · rintro σ' H6 ⟨y5, y6, y7, y8, y9, y10, rfl, D6, ht6, hP6⟩
      exact ⟨_, _, _, _, _, _, _, _, _, rfl, D6.mono (by omega)⟩
  · rintro σ' H3 ⟨x2, x3, x4, x5, x6, x7, x8, x9, x10, rfl, D3⟩
    walk_at "rd"
    exact k H3
end
end Wp
set_option Elab.async false
set_option linter.all false
set_option maxRecDepth 100000
set_option maxHeartbeats 0
namespace Wp
open PySem PySem.Spec PyProof.Rows L2
def insB (K : PySem.W.Frag) (C : Addr) : Bool := decide (PySem.W.findIn K (.ref C) "__class__" = some (some (.builtin "object.__class__"))) && (decide (PySem.W.specialIn K (.builtin "object.__class__") "__get__" = some (some (.builtin "getset_descriptor.__get__")))
  && (decide (PySem.W.takesIn K (.builtin "object.__class__") = some true) && (decide (PySem.W.mroIn K C (.type "object") = some true) && decide (PySem.W.kitOne K (.ref C) (.ref C) = some true))))
theorem insB_ok {K : PySem.W.Frag} {C : Addr} (cl : Cls K C) (h : insB K C = true) : C8.InsC K C := by
  obtain ⟨h1, h⟩ := He.ba h
  obtain ⟨h2, h⟩ := He.ba h
  obtain ⟨h3, h⟩ := He.ba h
  obtain ⟨h4, h5⟩ := He.ba h
  exact ⟨cl, of_decide_eq_true h1, of_decide_eq_true h2, of_decide_eq_true h3, of_decide_eq_true h4, of_decide_eq_true h5⟩
def D__law_begun : He.DefD := ⟨("_law_begun", none), "_law_begun", "_law_begun", defArgs s__law_begun, defBody s__law_begun, defScope s__law_begun, [], []⟩
def D__law_mixed : He.DefD := ⟨("_law_mixed", none), "_law_mixed", "_law_mixed", defArgs s__law_mixed, defBody s__law_mixed, defScope s__law_mixed, [], []⟩
def D__law_take : He.DefD := ⟨("_law_take", none), "_law_take", "_law_take", defArgs s__law_take, defBody s__law_take, defScope s__law_take, [], []⟩
def D__law_pick : He.DefD := ⟨("_law_pick", none), "_law_pick", "_law_pick", defArgs s__law_pick, defBody s__law_pick, defScope s__law_pick, [], []⟩
def D_is_number : He.DefD := ⟨("is_number", none), "is_number", "is_number", defArgs s_is_number, defBody s_is_number, defScope s_is_number, [], []⟩
def D_is_number_in : He.DefD := ⟨("is_number_in", none), "is_number_in", "is_number_in", defArgs s_is_number_in, defBody s_is_number_in, defScope s_is_number_in, [], []⟩
def D_Plan___init__ : He.DefD := ⟨("Plan", some "__init__"), "__init__", "Plan.__init__", defArgs s_Plan___init__, defBody s_Plan___init__, defScope s_Plan___init__, [.bl false], []⟩
def D_need_plan : He.DefD := ⟨("need_plan", none), "need_plan", "need_plan", defArgs s_need_plan, defBody s_need_plan, defScope s_need_plan, [], []⟩
def D_need_balance : He.DefD := ⟨("need_balance", none), "need_balance", "need_balance", defArgs s_need_balance, defBody s_need_balance, defScope s_need_balance, [], []⟩
def D_month_with : He.DefD := ⟨("month_with", none), "month_with", "month_with", defArgs s_month_with, defBody s_month_with, defScope s_month_with, [], []⟩
def D_row_with : He.DefD := ⟨("row_with", none), "row_with", "row_with", defArgs s_row_with, defBody s_row_with, defScope s_row_with, [], []⟩
def D_ending : He.DefD := ⟨("ending", none), "ending", "ending", defArgs s_ending, defBody s_ending, defScope s_ending, [], []⟩
def D_evidence : He.DefD := ⟨("evidence", none), "evidence", "evidence", defArgs s_evidence, defBody s_evidence, defScope s_evidence, [], []⟩
def D__law_parts : He.DefD := ⟨("_law_parts", none), "_law_parts", "_law_parts", defArgs s__law_parts, defBody s__law_parts, defScope s__law_parts, [], []⟩
def D__law_planned : He.DefD := ⟨("_law_planned", none), "_law_planned", "_law_planned", defArgs s__law_planned, defBody s__law_planned, defScope s__law_planned, [], []⟩
def D__law_sum_drawn : He.DefD := ⟨("_law_sum_drawn", none), "_law_sum_drawn", "_law_sum_drawn", defArgs s__law_sum_drawn, defBody s__law_sum_drawn, defScope s__law_sum_drawn, [], []⟩
def D__law_step : He.DefD := ⟨("_law_step", none), "_law_step", "_law_step", defArgs s__law_step, defBody s__law_step, defScope s__law_step, [], []⟩
def D__law_walk : He.DefD := ⟨("_law_walk", none), "_law_walk", "_law_walk", defArgs s__law_walk, defBody s__law_walk, defScope s__law_walk, [], []⟩
def D__law_is_number : He.DefD := ⟨("_law_is_number", none), "_law_is_number", "_law_is_number", defArgs s__law_is_number, defBody s__law_is_number, defScope s__law_is_number, [], []⟩
def D__law_long_right : He.DefD := ⟨("_law_long_right", none), "_law_long_right", "_law_long_right", defArgs s__law_long_right, defBody s__law_long_right, defScope s__law_long_right, [], []⟩
def D_law : He.DefD := ⟨("law", none), "law", "law", defArgs s_law, defBody s_law, defScope s_law, [], []⟩
def fnL : List He.DefD := [D__law_begun, D__law_mixed, D__law_take, D__law_pick, D_is_number, D_is_number_in, D_Plan___init__, D_need_plan, D_need_balance, D_month_with, D_row_with, D_ending, D_evidence, D__law_parts, D__law_planned, D__law_sum_drawn, D__law_step, D__law_walk, D__law_is_number, D__law_long_right, D_law]
def faL : List He.Fa := ([.glo "_law_begun", .glo "_law_mixed", .glo "_law_take", .glo "_law_pick", .glo "is_number", .glo "is_number_in", .glo "need_plan", .glo "need_balance", .glo "month_with", .glo "row_with", .glo "ending", .glo "evidence", .glo "_law_parts", .glo "_law_planned", .glo "_law_sum_drawn", .glo "_law_step", .glo "_law_walk", .glo "_law_is_number", .glo "_law_long_right", .glo "law", .glo "CreditError", .glo "BadNumber", .glo "BadPlan", .glo "Plan", .free "bool", .free "int", .free "isinstance", .free "len", .free "list", .free "max"] : List He.Fa) ++ ([.free "min", .free "range", .free "repr", .free "sum", .free "super", .free "tuple", .str "ENDS" "ends", .int "MOST_BALANCE" 100000, .int "MOST_LEAST" 1000000, .str "NEVER" "never", .int "THOUSAND" 1000, .cls "Plan", .noat "Plan" "l_parts", .mkr "Plan"] : List He.Fa)
def exB (K : PySem.W.Frag) : Bool := insB K (He.ga K "Plan")
abbrev Rw : PySem.W.OpenRow := PySem.W.OpenLaw.row PySem.Challenge.rw_wholepaid_k73_balances_that_end
abbrev hkL : PySem.W.Hook := He.hookX 5 faL fnL [] [] exB
def obL (s : PySem.W.SharedT) : He.AlX := He.obsX 5 faL fnL [] [] exB (HandSHeadRun.getT s)
theorem obL_eq (s : PySem.W.SharedT) : obL s = hkL.obs s.abs := He.obsX_eq (HandSHeadRun.getT_eq s)
def looseL : List Str := (["CreditError", "BadNumber", "BadPlan", "is_number", "is_number_in", "THOUSAND", "MOST_LEAST", "MOST_BALANCE", "ENDS", "NEVER", "Plan", "need_plan", "need_balance", "month_with", "row_with", "ending", "evidence", "_law_begun", "_law_mixed", "_law_take", "_law_pick", "_law_long_right", "_law_parts", "_law_planned", "_law_sum_drawn", "_law_step", "_law_walk", "_law_is_number"] : List Str)
theorem runL (w : World) : HandSHeadRun.RunEq Rw (PySem.W.view Rw.prog [32]) hkL obL 6000 looseL w := by
  intro os
  kernel_rfl
theorem factsL {P : Program} {w : World} {K : PySem.W.Frag} {h : Heap} {mg : Str → Option Value} {f : Addr} (X : K.In h) (G : h.Ns mainGlobals mg) (hfa : mg ("law" : Str) = some (.ref f)) (c : He.SaysD faL fnL K) (ex : exB K = true) :
    ∃ fd : FuncData, (∀ (s : Shared) (v : Value), BindsTo s fd ⟨[v], []⟩ [("_law_script", v)]) ∧ ∀ base : Heap, K.In base → base.Ns mainGlobals mg → FnG P w K mg base CX0 6 f fd ["_law_script"] (spLaw K) := by
  obtain ⟨fd__law_begun, F__law_begun⟩ := c.def_ 0 (d := D__law_begun) rfl
  obtain ⟨fd__law_mixed, F__law_mixed⟩ := c.def_ 1 (d := D__law_mixed) rfl
  obtain ⟨fd__law_take, F__law_take⟩ := c.def_ 2 (d := D__law_take) rfl
  obtain ⟨fd__law_pick, F__law_pick⟩ := c.def_ 3 (d := D__law_pick) rfl
  obtain ⟨fd_is_number, F_is_number⟩ := c.def_ 4 (d := D_is_number) rfl
  obtain ⟨fd_is_number_in, F_is_number_in⟩ := c.def_ 5 (d := D_is_number_in) rfl
  obtain ⟨fd_Plan___init__, F_Plan___init__⟩ := c.def_ 6 (d := D_Plan___init__) rfl
  obtain ⟨fd_need_plan, F_need_plan⟩ := c.def_ 7 (d := D_need_plan) rfl
  obtain ⟨fd_need_balance, F_need_balance⟩ := c.def_ 8 (d := D_need_balance) rfl
  obtain ⟨fd_month_with, F_month_with⟩ := c.def_ 9 (d := D_month_with) rfl
  obtain ⟨fd_row_with, F_row_with⟩ := c.def_ 10 (d := D_row_with) rfl
  obtain ⟨fd_ending, F_ending⟩ := c.def_ 11 (d := D_ending) rfl
  obtain ⟨fd_evidence, F_evidence⟩ := c.def_ 12 (d := D_evidence) rfl
  obtain ⟨fd__law_parts, F__law_parts⟩ := c.def_ 13 (d := D__law_parts) rfl
  obtain ⟨fd__law_planned, F__law_planned⟩ := c.def_ 14 (d := D__law_planned) rfl
  obtain ⟨fd__law_sum_drawn, F__law_sum_drawn⟩ := c.def_ 15 (d := D__law_sum_drawn) rfl
  obtain ⟨fd__law_step, F__law_step⟩ := c.def_ 16 (d := D__law_step) rfl
  obtain ⟨fd__law_walk, F__law_walk⟩ := c.def_ 17 (d := D__law_walk) rfl
  obtain ⟨fd__law_is_number, F__law_is_number⟩ := c.def_ 18 (d := D__law_is_number) rfl
  obtain ⟨fd__law_long_right, F__law_long_right⟩ := c.def_ 19 (d := D__law_long_right) rfl
  obtain ⟨fd_law, F_law⟩ := c.def_ 20 (d := D_law) rfl
  have e := hfa.symm.trans (He.glo_ok X G (c.fact 19 (f := .glo "law") rfl))
  cases e
  have T : Tx K mg := { b_bool := He.free_ok X G (c.fact 24 (f := .free "bool") rfl), b_int := He.free_ok X G (c.fact 25 (f := .free "int") rfl), b_isinstance := He.free_ok X G (c.fact 26 (f := .free "isinstance") rfl), b_len := He.free_ok X G (c.fact 27 (f := .free "len") rfl), b_list := He.free_ok X G (c.fact 28 (f := .free "list") rfl), b_max := He.free_ok X G (c.fact 29 (f := .free "max") rfl), b_min := He.free_ok X G (c.fact 30 (f := .free "min") rfl), b_range := He.free_ok X G (c.fact 31 (f := .free "range") rfl), b_repr := He.free_ok X G (c.fact 32 (f := .free "repr") rfl), b_sum := He.free_ok X G (c.fact 33 (f := .free "sum") rfl), b_super := He.free_ok X G (c.fact 34 (f := .free "super") rfl), b_tuple := He.free_ok X G (c.fact 35 (f := .free "tuple") rfl), c_ENDS := He.str_ok X G (c.fact 36 (f := .str "ENDS" "ends") rfl), c_MOST_BALANCE := He.int_ok X G (c.fact 37 (f := .int "MOST_BALANCE" 100000) rfl), c_MOST_LEAST := He.int_ok X G (c.fact 38 (f := .int "MOST_LEAST" 1000000) rfl), c_NEVER := He.str_ok X G (c.fact 39 (f := .str "NEVER" "never") rfl), c_THOUSAND := He.int_ok X G (c.fact 40 (f := .int "THOUSAND" 1000) rfl), g_CreditError := He.glo_ok X G (c.fact 20 (f := .glo "CreditError") rfl), g_BadNumber := He.glo_ok X G (c.fact 21 (f := .glo "BadNumber") rfl), g_BadPlan := He.glo_ok X G (c.fact 22 (f := .glo "BadPlan") rfl), g_Plan := He.glo_ok X G (c.fact 23 (f := .glo "Plan") rfl) }
  have clPlan := He.cls_ok (c.fact 41 (f := .cls "Plan") rfl)
  have naPlan := He.noat_ok (c.fact 42 (f := .noat "Plan" "l_parts") rfl)
  have mkPlan := He.mkr_ok (c.fact 43 (f := .mkr "Plan") rfl)
  have insPlan := insB_ok clPlan ex
  obtain ⟨bds, bvs, bPlan'⟩ := FunD.binds1 (ps := ["self", "rate", "share", "least", "plus"]) F_Plan___init__ 5 1 (List.cons_ne_nil _ _) rfl (fun T' kV doc pm an cdv ct us its h1 h2 => match us, its, h1, h2 with | [_, _, _, _, _], [_], _, _ => ⟨_, rfl, rfl⟩)
  have bPlan : Binds K fd_Plan___init__ ["self", "rate", "share", "least", "plus"] [] := by cases bvs; exact bPlan'
  have b := FunD.bindsA (ps := ["_law_script"]) F_law fun _ _ _ _ _ _ us hl => match us, hl with | [_], _ => rfl
  refine ⟨fd_law, fun s v => b s [v] rfl, fun base inB nsB => ?_⟩
  have d__law_begun : Dn P w K mg base CX0 1 "_law_begun" ["_law_script"] (sp_begun K) := ⟨⟨_, ok__law_begun T F__law_begun, FunD.bindsN F__law_begun fun _ _ _ _ _ _ us hl => match us, hl with | [_], _ => rfl⟩, He.glo_ok X G (c.fact 0 (f := .glo "_law_begun") rfl), F__law_begun.kp⟩
  have d__law_mixed : Dn P w K mg base CX0 1 "_law_mixed" ["_law_state"] sp_mixed := ⟨⟨_, ok__law_mixed T F__law_mixed, FunD.bindsN F__law_mixed fun _ _ _ _ _ _ us hl => match us, hl with | [_], _ => rfl⟩, He.glo_ok X G (c.fact 1 (f := .glo "_law_mixed") rfl), F__law_mixed.kp⟩
  have d__law_take : Dn P w K mg base CX0 2 "_law_take" ["_law_state", "_law_size"] sp_take := ⟨⟨_, ok__law_take T F__law_take d__law_mixed, FunD.bindsN F__law_take fun _ _ _ _ _ _ us hl => match us, hl with | [_, _], _ => rfl⟩, He.glo_ok X G (c.fact 2 (f := .glo "_law_take") rfl), F__law_take.kp⟩
  have d__law_pick : Dn P w K mg base CX0 3 "_law_pick" ["_law_state", "_law_some"] sp_pick := ⟨⟨_, ok__law_pick T F__law_pick d__law_take, FunD.bindsN F__law_pick fun _ _ _ _ _ _ us hl => match us, hl with | [_, _], _ => rfl⟩, He.glo_ok X G (c.fact 3 (f := .glo "_law_pick") rfl), F__law_pick.kp⟩
  have d_is_number : Dn P w K mg base CX0 1 "is_number" ["value"] (sp_is_number K) := ⟨⟨_, ok_is_number T F_is_number, FunD.bindsN F_is_number fun _ _ _ _ _ _ us hl => match us, hl with | [_], _ => rfl⟩, He.glo_ok X G (c.fact 4 (f := .glo "is_number") rfl), F_is_number.kp⟩
  have d_is_number_in : Dn P w K mg base CX0 2 "is_number_in" ["value", "least", "most"] (sp_is_number_in K) := ⟨⟨_, ok_is_number_in T F_is_number_in d_is_number, FunD.bindsN F_is_number_in fun _ _ _ _ _ _ us hl => match us, hl with | [_, _, _], _ => rfl⟩, He.glo_ok X G (c.fact 5 (f := .glo "is_number_in") rfl), F_is_number_in.kp⟩
  have mk_Plan : Dc P w K mg base CX0 3 "Plan" (sp_Plan (He.ga K "Plan")) := ⟨⟨_, _, _, _, [], [], mkPlan, ok_Plan_init T clPlan naPlan F_Plan___init__ d_is_number_in, bPlan, .nil, fun vs H Q E z => imp_Plan vs H Q E z⟩, T.g_Plan⟩
  have d_need_plan : Dn P w K mg base CX0 1 "need_plan" ["value"] (sp_need_plan (He.ga K "Plan")) := ⟨⟨_, ok_need_plan T insPlan F_need_plan, FunD.bindsN F_need_plan fun _ _ _ _ _ _ us hl => match us, hl with | [_], _ => rfl⟩, He.glo_ok X G (c.fact 6 (f := .glo "need_plan") rfl), F_need_plan.kp⟩
  have d_need_balance : Dn P w K mg base CX0 3 "need_balance" ["plan", "balance"] (sp_need_balance (He.ga K "Plan")) := ⟨⟨_, ok_need_balance T F_need_balance d_need_plan d_is_number_in, FunD.bindsN F_need_balance fun _ _ _ _ _ _ us hl => match us, hl with | [_, _], _ => rfl⟩, He.glo_ok X G (c.fact 7 (f := .glo "need_balance") rfl), F_need_balance.kp⟩
  have d_month_with : Dn P w K mg base CX0 1 "month_with" ["plan", "balance", "extra"] (sp_month_with (He.ga K "Plan")) := ⟨⟨_, ok_month_with T clPlan naPlan F_month_with, FunD.bindsN F_month_with fun _ _ _ _ _ _ us hl => match us, hl with | [_, _, _], _ => rfl⟩, He.glo_ok X G (c.fact 8 (f := .glo "month_with") rfl), F_month_with.kp⟩
  have d_row_with : Dn P w K mg base CX0 2 "row_with" ["plan", "balance", "extra"] (sp_row_with (He.ga K "Plan")) := ⟨⟨_, ok_row_with T F_row_with d_month_with, FunD.bindsN F_row_with fun _ _ _ _ _ _ us hl => match us, hl with | [_, _, _], _ => rfl⟩, He.glo_ok X G (c.fact 9 (f := .glo "row_with") rfl), F_row_with.kp⟩
  have d_ending : Dn P w K mg base CX0 4 "ending" ["plan", "balance"] (sp_ending (He.ga K "Plan")) := ⟨⟨_, ok_ending T F_ending d_need_balance d_month_with d_row_with, FunD.bindsN F_ending fun _ _ _ _ _ _ us hl => match us, hl with | [_, _], _ => rfl⟩, He.glo_ok X G (c.fact 10 (f := .glo "ending") rfl), F_ending.kp⟩
  have d_evidence : Dn P w K mg base CX0 4 "evidence" ["plan", "balance"] (sp_evidence (He.ga K "Plan")) := ⟨⟨_, ok_evidence T F_evidence d_need_balance d_row_with, FunD.bindsN F_evidence fun _ _ _ _ _ _ us hl => match us, hl with | [_, _], _ => rfl⟩, He.glo_ok X G (c.fact 11 (f := .glo "evidence") rfl), F_evidence.kp⟩
  have k_ending_balance_plan : Dq P w K mg base CX0 4 "ending" ["balance", "plan"] swap2 (sp_ending (He.ga K "Plan")) := ⟨⟨_, ["plan", "balance"], _, ok_ending T F_ending d_need_balance d_month_with d_row_with, kbn_of F_ending swap2_rel fun _ _ _ _ _ _ ws hl => match ws, hl with | [_, _], _ => rfl⟩, He.glo_ok X G (c.fact 10 (f := .glo "ending") rfl), F_ending.kp⟩
  have k_evidence_balance_plan : Dq P w K mg base CX0 4 "evidence" ["balance", "plan"] swap2 (sp_evidence (He.ga K "Plan")) := ⟨⟨_, ["plan", "balance"], _, ok_evidence T F_evidence d_need_balance d_row_with, kbn_of F_evidence swap2_rel fun _ _ _ _ _ _ ws hl => match ws, hl with | [_, _], _ => rfl⟩, He.glo_ok X G (c.fact 11 (f := .glo "evidence") rfl), F_evidence.kp⟩
  have d__law_parts : Dn P w K mg base CX0 4 "_law_parts" ["_law_state"] sp_parts := ⟨⟨_, ok__law_parts T F__law_parts d__law_take d__law_pick, FunD.bindsN F__law_parts fun _ _ _ _ _ _ us hl => match us, hl with | [_], _ => rfl⟩, He.glo_ok X G (c.fact 12 (f := .glo "_law_parts") rfl), F__law_parts.kp⟩
  have d__law_planned : Dn P w K mg base CX0 5 "_law_planned" ["_law_parts_here"] (sp_planned (He.ga K "Plan")) := ⟨⟨_, ok__law_planned T F__law_planned mk_Plan, FunD.bindsN F__law_planned fun _ _ _ _ _ _ us hl => match us, hl with | [_], _ => rfl⟩, He.glo_ok X G (c.fact 13 (f := .glo "_law_planned") rfl), F__law_planned.kp⟩
  have d__law_sum_drawn : Dn P w K mg base CX0 4 "_law_sum_drawn" ["_law_state", "_law_parts_here"] sp_sum_drawn := ⟨⟨_, ok__law_sum_drawn T F__law_sum_drawn d__law_take d__law_pick, FunD.bindsN F__law_sum_drawn fun _ _ _ _ _ _ us hl => match us, hl with | [_, _], _ => rfl⟩, He.glo_ok X G (c.fact 14 (f := .glo "_law_sum_drawn") rfl), F__law_sum_drawn.kp⟩
  have d__law_step : Dn P w K mg base CX0 1 "_law_step" ["_law_parts_here", "_law_sum_here", "_law_more"] sp_step := ⟨⟨_, ok__law_step T F__law_step, FunD.bindsN F__law_step fun _ _ _ _ _ _ us hl => match us, hl with | [_, _, _], _ => rfl⟩, He.glo_ok X G (c.fact 15 (f := .glo "_law_step") rfl), F__law_step.kp⟩
  have d__law_walk : Dn P w K mg base CX0 2 "_law_walk" ["_law_parts_here", "_law_sum_here", "_law_more", "_law_most"] sp_walk := ⟨⟨_, ok__law_walk T F__law_walk d__law_step, FunD.bindsN F__law_walk fun _ _ _ _ _ _ us hl => match us, hl with | [_, _, _, _], _ => rfl⟩, He.glo_ok X G (c.fact 16 (f := .glo "_law_walk") rfl), F__law_walk.kp⟩
  have d__law_is_number : Dn P w K mg base CX0 1 "_law_is_number" ["_law_thing"] (sp_is_number K) := ⟨⟨_, ok__law_is_number T F__law_is_number, FunD.bindsN F__law_is_number fun _ _ _ _ _ _ us hl => match us, hl with | [_], _ => rfl⟩, He.glo_ok X G (c.fact 17 (f := .glo "_law_is_number") rfl), F__law_is_number.kp⟩
  have d__law_long_right : Dn P w K mg base CX0 5 "_law_long_right" ["_law_state"] sp_long_right := ⟨⟨_, ok__law_long_right T F__law_long_right d__law_take d__law_pick mk_Plan d_ending d_evidence, FunD.bindsN F__law_long_right fun _ _ _ _ _ _ us hl => match us, hl with | [_], _ => rfl⟩, He.glo_ok X G (c.fact 18 (f := .glo "_law_long_right") rfl), F__law_long_right.kp⟩
  exact ok_law T F_law d__law_begun d__law_long_right d__law_parts d__law_planned d__law_sum_drawn d__law_walk d__law_step d__law_is_number d_ending d_evidence k_ending_balance_plan k_evidence_balance_plan
end Wp
open PySem PySem.W PySem.Calls PyProof.Rows
set_option maxRecDepth 100000 in
set_option maxHeartbeats 0 in
theorem PySem.Challenge.cw_wholepaid_k73_balances_that_end_holds : PySem.Challenge.rw_wholepaid_k73_balances_that_end.Holds := by
  w_on; o_law
  refine HandSHeadRun.head_any (r := Wp.Rw) (q := view Wp.Rw.prog [32]) (H := Wp.hkL) (ob := Wp.obL) (M := 6000) (loose := Wp.looseL) (d := HandSHeadRun.topDef Wp.Rw.prog 32) (kwd := []) Wp.obL_eq
    (by kernel_rfl) (fun s => by kernel_rfl) Wp.runL (by kernel_rfl) (by kernel_rfl) (by kernel_rfl) (by rfl) (by first | assumption | decide +kernel) (by decide +kernel) ⟨rfl, rfl, rfl, rfl, rfl, by decide +kernel⟩ ?hw ?hc
  case hw => w_witness2
  case hc =>
    refine Wp.walk_ofG (l := PySem.Challenge.rw_wholepaid_k73_balances_that_end) (n := 63) (k := 6) (x := "_law_script") (CX := L2.CX0) rfl (by decide) (by kernel_rfl) ⟨rfl, by decide, by decide⟩ ?F (fun _ _ _ _ z => z)
    intro w mg fa h Y G hmg0
    obtain ⟨K, inK, cX⟩ := Y
    have hmg : mg ("law" : PySem.Str) = some (.ref fa) := by
      have e : (HandSHeadRun.topDef Wp.Rw.prog 32).name = ("law" : PySem.Str) := by kernel_rfl
      rw [← e]
      exact hmg0
    obtain ⟨fd, hb, hF⟩ := Wp.factsL (P := (PySem.Challenge.rw_wholepaid_k73_balances_that_end).prog) (w := w) inK G hmg cX.t.d cX.more
    exact ⟨K, fd, Wp.spLaw K, inK, hb, fun H a zs hl _ hS => ⟨a, zs, rfl, hS, hl, fun _ => rfl⟩, hF⟩
