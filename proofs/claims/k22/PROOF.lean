import PyProof.Rows.All
import Wide.All
import OpenK.AllK
import Wide.FinOn
import KE.KStateDown
import Lean
import HandS.ForMost
import HandS.Exc
import HandS.WordsExc
import HandS.Flow
import HandS.Style
import HandS.IsInst
import HandS.Defaults
import HandS.Conv
import HandS.Evl
import HandS.Steps
import HandS.Head0
import HandS.Head1
import HandS.Head2
import HandS.HeadEnd
import HandS.HeadHook1
import HandS.HeadHook2
import PyProof.ReprRoads
import HandS.MakeKwOnly
import HandS.Codes
import HandS.Property
import HandS.HeadHook3
import HandS.HeadHook4
import HandS.Text
import HandS.Iter
import HandS.DictComp
import HandS.More
import HandS.WordsDict
import KE.KDictZip
import HandS.Zip0
import HandS.Star
import HandS.Flt
import PySem.Challenge.RW_wholepaid_k22_known_pairs_of_books
set_option Elab.async false
set_option linter.all false
set_option maxRecDepth 100000
set_option maxHeartbeats 4000000
/-! The layer of this repo over the hand layer: defs called by their names, repr of data, the draws. -/
namespace Wp
open PySem PySem.Spec PyProof.Rows L2

/-- a def of the top as it stands -/
abbrev FnP (K : PySem.W.Frag) (x : Str) (st : Stmt) (f : Addr) (fd : FuncData) : Prop :=
  FunD K x x (defArgs st) (defBody st) (defScope st) [] [] f fd

/-- a def of the top that is called by its name -/
structure Dn (P : Program) (w : World) (K : PySem.W.Frag) (mg : Str → Option Value) (base : Heap)
    (CX : CXT) (k : Nat) (x : Str) (ps : List Str) (sp : Sp) : Prop where
  ex : ∃ fd, FnOk P w K mg base CX k (He.ga K x) fd ps sp ∧ Binds K fd ps []
  gm : mg x = some (.ref (He.ga K x))
  kp : PySem.W.keepIn K (.ref (He.ga K x)) = true

def tFn (sp : Sp) (E : XK) (t : TA) : TE := fun σ H Q => t σ H fun vs H1 => sp vs H1 Q E

section
variable {X : Cx}
theorem pe_fn {CX : CXT} {k : Nat} {x : Str} {ps : List Str} {sp : Sp} {E : XK} {e : Expr} {es : List Expr}
    {t : TA} {p pos : Pos} (D : Dn X.prog X.w X.K X.mg X.base CX k x ps sp) (hr : Room k X.A)
    (hx : Passes CX X E) (ha : PA X (e :: es) t) (hg : Gl X x := by rfl)
    (hdb : (x == ("__debug__" : Str)) = false := by decide)
    (he : starEach (e :: es) X.env = (false, eval e X.env) :: starEach es X.env := by rfl)
    (hpl : (backTo pos (starEach es X.env)).any (·.1) = false := by rfl) :
    PE X (.Call (.Name x p) (e :: es) [] pos) (tFn sp E t) := by
  obtain ⟨fd, F, b⟩ := D.ex
  refine ⟨fun pins s σ H Q I h => ?_⟩
  have q := pe_call (CX := CX) (E := E) (dvs := []) (p := p) (pos := pos) F hr hg D.gm D.kp b .nil hx ha hdb he hpl
  refine q.run pins s σ H Q I ?_
  have e2 : (fun vs H1 => sp (vs ++ []) H1 Q E) = fun vs H1 => sp vs H1 Q E := by
    funext vs H1
    rw [List.append_nil]
  show t σ H (fun vs H1 => sp (vs ++ []) H1 Q E)
  rw [e2]
  exact h
end
end Wp
set_option Elab.async false
set_option linter.all false
set_option maxRecDepth 100000
set_option maxHeartbeats 4000000
/-! Readings, step by step: one lemma for each head. -/
namespace Wp
open PySem PySem.Spec PyProof.Rows L2

theorem sz5 {n : Nat} (h : n ≤ 1000000) : n ≤ sizeLine := Nat.le_trans h (by decide)
theorem sz6 {n : Nat} (h : n < 1000000) : n < sizeLine := Nat.lt_of_lt_of_le h (by decide)
/-- all but the object at a is as it was -/
def But (a : Addr) (H H' : Hp) : Prop := ∀ b o, H b = some o → b ≠ a → H' b = some o
theorem Same.new {H : Hp} {p : Addr} {o : HO} (h : H p = none) : Same H (upd H p o) := fun b u e => by
  rw [upd_ne (ne_of_none e h)]
  exact e
theorem But.upd {H : Hp} {p : Addr} {o : HO} : But p H (upd H p o) := fun b u e n => by
  rw [upd_ne n]
  exact e
theorem But.same {H H1 H2 : Hp} {p : Addr} (a : But p H H1) (b : Same H1 H2) : But p H H2 := fun c o e n => b c o (a c o e n)
theorem Same.but {H H1 H2 : Hp} {p : Addr} (a : Same H H1) (b : But p H1 H2) : But p H H2 := fun c o e n => b c o (a c o e) n
/-- what is new may change -/
theorem Same.mut {H H1 H2 : Hp} {p : Addr} (a : Same H H1) (b : But p H1 H2) (n : H p = none) : Same H H2 := fun c o e => b c o (a c o e) (ne_of_none e n)

section
variable {t u : TS} {D : Ends} {σ : L2.St} {H : Hp} {te ta tb tc : TE} {ca cb : TT} {tr : TA} {g : TG} {gs : TGs} {Q : VK} {QB : Bool → Hp → Prop} {QA : List V → Hp → Prop} {QS : L2.St → Hp → Prop} {v x y : V} {i j : Int} {n : Nat} {b : Bool} {K : PySem.W.Frag}
/-! statements -/
theorem r_seq (h : t { D with nx := u D } σ H) : tSeq t u D σ H := h
theorem r_next (h : D.nx σ H) : tNext D σ H := h
theorem r_if {c : TT} (h : c σ H fun b H1 => if b = true then t D σ H1 else u D σ H1) : tIfS c t u D σ H := h
theorem r_asg (h : te σ H fun x H1 => g x σ H1 D.nx) : tAsg te g D σ H := h
theorem r_gname (h : QS (σ.set n (some v)) H) : gName n v σ H QS := h
theorem r_ret (h : te σ H D.rt) : tRet te D σ H := h
theorem r_retN (h : D.rt .non H) : tRetN D σ H := h
theorem r_drop (h : te σ H fun _ H1 => D.nx σ H1) : tDrop te D σ H := h
def kPar (m n : Nat) (D : Ends) (σ : L2.St) : List V → Hp → Prop := fun vs H1 => ∃ v w, vs = [v, w] ∧ D.nx ((σ.set m (some v)).set n (some w)) H1
theorem r_par {m : Nat} (h : tr σ H (kPar m n D σ)) : tPar m n tr D σ H := h
theorem r_kPar {m : Nat} (h : D.nx ((σ.set m (some x)).set n (some y)) H) : kPar m n D σ [x, y] H := ⟨x, y, rfl, h⟩
theorem r_gtup {a : Addr} {xs : List V} (h : SqT K H a xs) (l : xs.length = n) (q : gs xs σ H QS) : gTup K n gs (.ref a) σ H QS := ⟨a, xs, rfl, h, l, q⟩
theorem r_gnil (q : QS σ H) : gNil [] σ H QS := ⟨rfl, q⟩
theorem r_gcons {r : List V} (q : g v σ H fun σ' H' => gs r σ' H' QS) : gCons g gs (v :: r) σ H QS := ⟨v, r, rfl, q⟩
/-! names, constants, arguments -/
theorem r_var (h : σ[n]? = some (some v)) (q : Q v H) : tVar n σ H Q := ⟨v, h, q⟩
theorem r_c (q : Q v H) : tC v σ H Q := q
theorem r_nil (q : QA [] H) : tNil σ H QA := q
theorem r_cons (q : te σ H fun x H1 => tr σ H1 fun xs H2 => QA (x :: xs) H2) : tCons te tr σ H QA := q
theorem r_fn {sp : Sp} {E : XK} (q : tr σ H fun vs H1 => sp vs H1 Q E) : tFn sp E tr σ H Q := q
theorem r_cb {r : List V → Hp → VK → Prop} (q : tr σ H fun vs H1 => r vs H1 Q) : tCB r tr σ H Q := q
/-! operators -/
theorem r_op {r : R2} (q : ta σ H fun x H1 => tb σ H1 fun y H2 => r x y H2 Q) : tOp r ta tb σ H Q := q
theorem r_un {r : V → Hp → VK → Prop} (q : ta σ H fun x H1 => r x H1 Q) : tUn r ta σ H Q := q
theorem r_I0 {f : Int → Int → V} (q : Q (f i j) H) : rI0 f (.int i) (.int j) H Q := ⟨i, j, rfl, rfl, q⟩
theorem r_I {C : Int → Int → Prop} {f : Int → Int → V} (c : C i j) (q : Q (f i j) H) : rI C f (.int i) (.int j) H Q := ⟨i, j, rfl, rfl, c, q⟩
theorem r_U {f : Int → V} (q : Q (f i) H) : rU f (.int i) H Q := ⟨i, rfl, q⟩
theorem decI {i j : Int} : decide (V.int i = V.int j) = decide (i = j) := by
  by_cases h : i = j
  · rw [h]; simp
  · rw [decide_eq_false h, decide_eq_false fun z => h (V.int.inj z)]
theorem decS {i j : Str} : decide (V.str i = V.str j) = decide (i = j) := by
  by_cases h : i = j
  · rw [h]; simp
  · rw [decide_eq_false h, decide_eq_false fun z => h (V.str.inj z)]
theorem decB {i j : Bool} : decide (V.bl i = V.bl j) = decide (i = j) := by
  by_cases h : i = j
  · rw [h]; simp
  · rw [decide_eq_false h, decide_eq_false fun z => h (V.bl.inj z)]
theorem r_eqI (q : Q (.bl (decide (i = j))) H) : rEq (.int i) (.int j) H Q := ⟨rfl, by rw [decI]; exact q⟩
theorem r_neI (q : Q (.bl (!decide (i = j))) H) : rNe (.int i) (.int j) H Q := ⟨rfl, by rw [decI]; exact q⟩
theorem r_eqS {a c : Str} (q : Q (.bl (decide (a = c))) H) : rEq (.str a) (.str c) H Q := ⟨rfl, by rw [decS]; exact q⟩
theorem r_neS {a c : Str} (q : Q (.bl (!decide (a = c))) H) : rNe (.str a) (.str c) H Q := ⟨rfl, by rw [decS]; exact q⟩
theorem r_eqB {a c : Bool} (q : Q (.bl (decide (a = c))) H) : rEq (.bl a) (.bl c) H Q := ⟨rfl, by rw [decB]; exact q⟩
theorem r_neB {a c : Bool} (q : Q (.bl (!decide (a = c))) H) : rNe (.bl a) (.bl c) H Q := ⟨rfl, by rw [decB]; exact q⟩
def kChain (r' : R2) (tc : TE) (σ : L2.St) (y : V) (Q : VK) : VK := fun z H3 => ∃ k, z = .bl k ∧ (if k = true then tc σ H3 fun w' H4 => r' y w' H4 Q else Q (.bl false) H3)
theorem r_chain {r r' : R2} (q : ta σ H fun x H1 => tb σ H1 fun y H2 => r x y H2 (kChain r' tc σ y Q)) : tChain r r' ta tb tc σ H Q := q
theorem r_kChain {r' : R2} (q1 : b = true → tc σ H fun w' H4 => r' y w' H4 Q) (q2 : b = false → Q (.bl false) H) : kChain r' tc σ y Q (.bl b) H := by
  refine ⟨b, rfl, ?_⟩
  cases b with
  | true => exact iteT (q1 rfl)
  | false => exact iteF (q2 rfl)
/-! tests -/
def kTest (Q : Bool → Hp → Prop) : VK := fun x H' => ∃ k, x = .bl k ∧ Q k H'
theorem r_test (q : te σ H (kTest QB)) : tTest te σ H QB := q
theorem r_tB (q : te σ H (kTest QB)) : tB te σ H QB := q
theorem r_kTest (q : QB b H) : kTest QB (.bl b) H := ⟨b, rfl, q⟩
theorem r_not (q : ca σ H fun c H1 => QB (!c) H1) : tNot ca σ H QB := q
theorem r_and (q : ca σ H fun c H1 => if c = true then cb σ H1 QB else QB false H1) : tAnd ca cb σ H QB := q
theorem r_or (q : ca σ H fun c H1 => if c = true then QB true H1 else cb σ H1 QB) : tOr ca cb σ H QB := q
theorem r_tif (q : ca σ H fun c H1 => if c = true then ta σ H1 Q else tb σ H1 Q) : tIf ca ta tb σ H Q := q
def kAndV (tb : TE) (σ : L2.St) (Q : VK) : VK := fun x H1 => ∃ c, x = .bl c ∧ if c = true then tb σ H1 Q else Q (.bl false) H1
def kOrV (tb : TE) (σ : L2.St) (Q : VK) : VK := fun x H1 => ∃ c, x = .bl c ∧ if c = true then Q (.bl true) H1 else tb σ H1 Q
def kNotV (Q : VK) : VK := fun x H1 => ∃ c, x = .bl c ∧ Q (.bl (!c)) H1
theorem r_andV (q : ta σ H (kAndV tb σ Q)) : tAndV ta tb σ H Q := q
theorem r_orV (q : ta σ H (kOrV tb σ Q)) : tOrV ta tb σ H Q := q
theorem r_notV (q : ta σ H (kNotV Q)) : tNotV ta σ H Q := q
theorem r_kAndV (q : if b = true then tb σ H Q else Q (.bl false) H) : kAndV tb σ Q (.bl b) H := ⟨b, rfl, q⟩
theorem r_kOrV (q : if b = true then Q (.bl true) H else tb σ H Q) : kOrV tb σ Q (.bl b) H := ⟨b, rfl, q⟩
theorem r_kNotV (q : Q (.bl (!b)) H) : kNotV Q (.bl b) H := ⟨b, rfl, q⟩
end
/-! ways -/
section
variable {A B : Prop} {p : Prop} {ip : Decidable p} {b : Bool}
theorem w_T (h : A) : if true = true then A else B := iteT h
theorem w_F (h : B) : if false = true then A else B := iteF h
theorem w_NT (h : B) : if (!true) = true then A else B := iteF h
theorem w_NF (h : A) : if (!false) = true then A else B := iteT h
theorem w_dec (h1 : p → A) (h2 : ¬ p → B) : if decide p = true then A else B := by
  by_cases h : p
  · rw [decide_eq_true h]; exact iteT (h1 h)
  · rw [decide_eq_false h]; exact iteF (h2 h)
theorem w_ndec (h1 : ¬ p → A) (h2 : p → B) : if (!decide p) = true then A else B := by
  by_cases h : p
  · rw [decide_eq_true h]; exact iteF (h2 h)
  · rw [decide_eq_false h]; exact iteT (h1 h)
theorem w_b (h1 : b = true → A) (h2 : b = false → B) : if b = true then A else B := by
  cases b with
  | true => exact iteT (h1 rfl)
  | false => exact iteF (h2 rfl)
theorem w_nb (h1 : b = false → A) (h2 : b = true → B) : if (!b) = true then A else B := by
  cases b with
  | true => exact iteF (h2 rfl)
  | false => exact iteT (h1 rfl)
theorem w_yes (h : b = true) (q : A) : if b = true then A else B := by rw [h]; exact iteT q
theorem w_no (h : b = false) (q : B) : if b = true then A else B := by rw [h]; exact iteF q
end
/-! objects -/
section
variable {t u : TS} {D : Ends} {σ : L2.St} {H : Hp} {te ta tb tc td ty tv : TE} {tr : TA} {Q : VK} {QA : List V → Hp → Prop} {v x y : V} {i j : Int} {n : Nat} {b : Bool} {K : PySem.W.Frag} {a C dx p : Addr} {fs : List (Str × V)} {f : Str} {xs ys : List V} {kvs : List (Key × V)} {k : Key}
theorem r_pow5 (q : Q (.int 100000) H) : rI CPow (fun i j => .int (i ^ j.toNat)) (.int 10) (.int 5) H Q := ⟨10, 5, rfl, rfl, ⟨by decide, by decide, by decide⟩, q⟩
theorem r_pow6 (q : Q (.int 1000000) H) : rI CPow (fun i j => .int (i ^ j.toNat)) (.int 10) (.int 6) H Q := ⟨10, 6, rfl, rfl, ⟨by decide, by decide, by decide⟩, q⟩
theorem r_pow7 (q : Q (.int 10000000) H) : rI CPow (fun i j => .int (i ^ j.toNat)) (.int 10) (.int 7) H Q := ⟨10, 7, rfl, rfl, ⟨by decide, by decide, by decide⟩, q⟩
theorem r_pow9 (q : Q (.int 1000000000) H) : rI CPow (fun i j => .int (i ^ j.toNat)) (.int 10) (.int 9) H Q := ⟨10, 9, rfl, rfl, ⟨by decide, by decide, by decide⟩, q⟩
theorem r_pow18 (q : Q (.int 1000000000000000000) H) : rI CPow (fun i j => .int (i ^ j.toNat)) (.int 10) (.int 18) H Q := ⟨10, 18, rfl, rfl, ⟨by decide, by decide, by decide⟩, q⟩
theorem r_pow20 (q : Q (.int 100000000000000000000) H) : rI CPow (fun i j => .int (i ^ j.toNat)) (.int 10) (.int 20) H Q := ⟨10, 20, rfl, rfl, ⟨by decide, by decide, by decide⟩, q⟩
theorem r_pow30 (q : Q (.int 1000000000000000000000000000000) H) : rI CPow (fun i j => .int (i ^ j.toNat)) (.int 10) (.int 30) H Q := ⟨10, 30, rfl, rfl, ⟨by decide, by decide, by decide⟩, q⟩
theorem r_isN_non (q : Q (.bl true) H) : rIsN .non .non H Q := ⟨rfl, q⟩
theorem r_isN_ref (q : Q (.bl false) H) : rIsN (.ref a) .non H Q := ⟨rfl, q⟩
theorem r_isN_int (q : Q (.bl false) H) : rIsN (.int i) .non H Q := ⟨rfl, q⟩
theorem r_isN_str {z : Str} (q : Q (.bl false) H) : rIsN (.str z) .non H Q := ⟨rfl, q⟩
theorem r_isN_bl (q : Q (.bl false) H) : rIsN (.bl b) .non H Q := ⟨rfl, q⟩
theorem r_notN_non (q : Q (.bl false) H) : rNotN .non .non H Q := ⟨rfl, q⟩
theorem r_notN_ref (q : Q (.bl true) H) : rNotN (.ref a) .non H Q := ⟨rfl, q⟩
theorem r_notN_int (q : Q (.bl true) H) : rNotN (.int i) .non H Q := ⟨rfl, q⟩
theorem r_notN_str {z : Str} (q : Q (.bl true) H) : rNotN (.str z) .non H Q := ⟨rfl, q⟩
theorem r_notN_bl (q : Q (.bl true) H) : rNotN (.bl b) .non H Q := ⟨rfl, q⟩
def kTup (Q : VK) : List V → Hp → Prop := fun xs H1 => xs.length ≤ sizeLine ∧ ∀ p, H1 p = none → Q (.ref p) (upd H1 p (.tup xs))
def kLst (Q : VK) : List V → Hp → Prop := fun xs H1 => xs.length ≤ sizeLine ∧ ∀ p, H1 p = none → Q (.ref p) (upd H1 p (.lst xs))
theorem r_tup (q : tr σ H (kTup Q)) : tTup tr σ H Q := q
theorem r_lst (q : tr σ H (kLst Q)) : tLst tr σ H Q := q
theorem r_kTup (q : ∀ p H', H p = none → Same H H' → H' p = some (.tup xs) → Q (.ref p) H') (hz : xs.length ≤ 1000000 := by (simp only [List.length_cons, List.length_nil]; decide)) : kTup Q xs H :=
  ⟨sz5 hz, fun p hp => q p _ hp (Same.new hp) upd_same⟩
theorem r_kLst (q : ∀ p H', H p = none → Same H H' → H' p = some (.lst xs) → Q (.ref p) H') (hz : xs.length ≤ 1000000 := by (simp only [List.length_cons, List.length_nil]; decide)) : kLst Q xs H :=
  ⟨sz5 hz, fun p hp => q p _ hp (Same.new hp) upd_same⟩
def kFld (K : PySem.W.Frag) (f : Str) (Q : VK) : VK := fun x H1 => ∃ a C dx fs v, x = .ref a ∧ H1 a = some (.ins C dx fs) ∧ Cls K C ∧ NoAttr K C f ∧ fs.lookup f = some v ∧ Q v H1
theorem r_fld (q : ta σ H (kFld K f Q)) : tFld K ta f σ H Q := q
theorem r_kFld (h1 : H a = some (.ins C dx fs)) (h2 : Cls K C) (h3 : NoAttr K C f) (h4 : fs.lookup f = some v) (q : Q v H) : kFld K f Q (.ref a) H := ⟨a, C, dx, fs, v, rfl, h1, h2, h3, h4, q⟩
def kSFld (K : PySem.W.Frag) (f : Str) (D : Ends) (σ : L2.St) (y : V) : VK := fun x H2 => ∃ a C dx fs, x = .ref a ∧ H2 a = some (.ins C dx fs) ∧ Cls K C ∧ NoAttr K C f ∧ fs.length < 1000 ∧ D.nx σ (upd H2 a (.ins C dx (putF f y fs)))
theorem r_sfld (q : tv σ H fun y H1 => ta σ H1 (kSFld K f D σ y)) : sFld K ta tv f D σ H := q
theorem r_kSFld (h1 : H a = some (.ins C dx fs)) (h2 : Cls K C) (h3 : NoAttr K C f) (hl : fs.length < 1000) (q : ∀ H', But a H H' → H' a = some (.ins C dx (putF f y fs)) → D.nx σ H') : kSFld K f D σ y (.ref a) H :=
  ⟨a, C, dx, fs, rfl, h1, h2, h3, hl, q _ But.upd upd_same⟩
def kDGet (Q : VK) (x : V) : VK := fun y H2 => ∃ a v, x = .ref a ∧ DGet H2 a y (some v) ∧ Q v H2
theorem r_dget (q : td σ H fun x H1 => ty σ H1 (kDGet Q x)) : tDGet td ty σ H Q := q
theorem r_kDGetS {z : Str} (h1 : H a = some (.dK kvs)) (h2 : valV kvs (Sum.inr z) = some v) (q : Q v H) : kDGet Q (.ref a) (.str z) H :=
  ⟨a, v, rfl, .inl ⟨kvs, Sum.inr z, .inl h1, rfl, h2.symm⟩, q⟩
theorem r_kDGetI {z : Int} (h1 : H a = some (.dK kvs)) (h2 : valV kvs (Sum.inl z) = some v) (q : Q v H) : kDGet Q (.ref a) (.int z) H :=
  ⟨a, v, rfl, .inl ⟨kvs, Sum.inl z, .inl h1, rfl, h2.symm⟩, q⟩
def kDPut (D : Ends) (σ : L2.St) (v x : V) : VK := fun y H3 => ∃ a H4, x = .ref a ∧ DPut H3 a y v H4 ∧ D.nx σ H4
theorem r_dput (q : tv σ H fun v H1 => td σ H1 fun x H2 => ty σ H2 (kDPut D σ v x)) : sDPut td ty tv D σ H := q
theorem r_kDPutS {z : Str} (h1 : H a = some (.dK kvs)) (hz : kvs.length < 1000000) (q : ∀ H', But a H H' → H' a = some (.dK (putK kvs (Sum.inr z) v)) → D.nx σ H') : kDPut D σ v (.ref a) (.str z) H :=
  ⟨a, _, rfl, .inl ⟨kvs, Sum.inr z, h1, rfl, sz6 hz, rfl⟩, q _ But.upd upd_same⟩
theorem r_ixL (h : SqL K H p xs) (e : atI xs i = some v) (q : Q v H) : rIxL K (.ref p) (.int i) H Q := ⟨p, xs, i, v, rfl, rfl, h, e, q⟩
theorem r_ixT (h : SqT K H p xs) (e : atI xs i = some v) (q : Q v H) : rIxT K (.ref p) (.int i) H Q := ⟨p, xs, i, v, rfl, rfl, h, e, q⟩
theorem r_ixSL (h : SqL K H p xs) (e : atI xs i = some v) (q : Q v H) : rIx K (.ref p) (.int i) H Q := .inl (r_ixL h e q)
theorem r_ixST (h : SqT K H p xs) (e : atI xs i = some v) (q : Q v H) : rIx K (.ref p) (.int i) H Q := .inr (.inl (r_ixT h e q))
def kBM (K : PySem.W.Frag) (T : String) (r : V → List V → Hp → VK → Prop) (tr : TA) (σ : L2.St) (Q : VK) : VK := fun x H1 => tyV K T x H1 ∧ tr σ H1 fun xs H2 => r x xs H2 Q
theorem r_bm {T : String} {r : V → List V → Hp → VK → Prop} (q : ta σ H (kBM K T r tr σ Q)) : tBM K T r ta tr σ H Q := q
theorem r_kBML {r : V → List V → Hp → VK → Prop} (h : H p = some (.lst xs)) (q : tr σ H fun ys H2 => r (.ref p) ys H2 Q) : kBM K "list" r tr σ Q (.ref p) H := ⟨.inl ⟨rfl, xs, SqL.of h⟩, q⟩
theorem r_append (h : H p = some (.lst xs)) (hz : xs.length < 1000000) (q : ∀ H', But p H H' → H' p = some (.lst (xs ++ [y])) → Q .non H') : rAppend (.ref p) [y] H Q :=
  ⟨p, xs, y, rfl, rfl, h, sz6 hz, q _ But.upd upd_same⟩
/-! built-in calls -/
def rInt1 : List V → Hp → VK → Prop := fun xs H Q => (∃ i, xs = [.int i] ∧ Q (.int i) H) ∨ ∃ k, xs = [.bl k] ∧ Q (.int (if k then 1 else 0)) H
theorem r_int1 (q : Q (.int i) H) : rInt1 [.int i] H Q := .inl ⟨i, rfl, q⟩
theorem r_int1b (q : Q (.int (if b then 1 else 0)) H) : rInt1 [.bl b] H Q := .inr ⟨b, rfl, q⟩
def rLen (K : PySem.W.Frag) : List V → Hp → VK → Prop := fun xs H Q => ∃ x n, xs = [x] ∧ LenV K x H n ∧ Q (.int n) H
theorem r_lenL (h : SqL K H p xs) (q : Q (.int (xs.length : Nat)) H) : rLen K [.ref p] H Q := ⟨_, _, rfl, .inl ⟨xs, h, rfl⟩, q⟩
theorem r_lenT (h : SqT K H p xs) (q : Q (.int (xs.length : Nat)) H) : rLen K [.ref p] H Q := ⟨_, _, rfl, .inr ⟨xs, h, rfl⟩, q⟩
def rMin2 : List V → Hp → VK → Prop := fun xs H Q => ∃ i j, xs = [.int i, .int j] ∧ Q (.int (if j < i then j else i)) H
def rMax2 : List V → Hp → VK → Prop := fun xs H Q => ∃ i j, xs = [.int i, .int j] ∧ Q (.int (if j > i then j else i)) H
theorem min_of (i j : Int) : (if j < i then j else i) = min i j := by
  split <;> omega
theorem max_of (i j : Int) : (if j > i then j else i) = max i j := by
  split <;> omega
theorem r_min2 (q : Q (.int (min i j)) H) : rMin2 [.int i, .int j] H Q := ⟨i, j, rfl, by rw [min_of]; exact q⟩
theorem r_max2 (q : Q (.int (max i j)) H) : rMax2 [.int i, .int j] H Q := ⟨i, j, rfl, by rw [max_of]; exact q⟩
def rListOf (K : PySem.W.Frag) : List V → Hp → VK → Prop := fun xs H Q => ∃ p ys, xs = [.ref p] ∧ (SqL K H p ys ∨ SqT K H p ys) ∧ ∀ l, H l = none → Q (.ref l) (upd H l (.lst ys))
theorem r_listL (h : SqL K H p xs) (q : ∀ l H', H l = none → Same H H' → H' l = some (.lst xs) → Q (.ref l) H') : rListOf K [.ref p] H Q := ⟨p, xs, rfl, .inl h, fun l hl => q l _ hl (Same.new hl) upd_same⟩
theorem r_listT (h : SqT K H p xs) (q : ∀ l H', H l = none → Same H H' → H' l = some (.lst xs) → Q (.ref l) H') : rListOf K [.ref p] H Q := ⟨p, xs, rfl, .inr h, fun l hl => q l _ hl (Same.new hl) upd_same⟩
theorem r_isi {c : V} {t u : Value} (h1 : ClsV c u) (h2 : TyX K H x t) (h3 : PySem.W.kitOne K t u = some b) (q : Q (.bl b) H) : rIsi K [x, c] H Q := ⟨x, c, t, u, b, rfl, h1, h2, h3, q⟩
theorem r_sum {zs : List Int} (h : SqL K H p (zs.map V.int)) (q : Q (.int zs.sum) H) : rSum K [.ref p] H Q := ⟨p, zs, rfl, h, q⟩
end
section
variable {X : Cx}
theorem c_int1 : CallR X (.type "int") rInt1 := call_int1
theorem c_len : CallR X (.builtin "len") (rLen X.K) := call_len
theorem c_min2 (h : X.calm = true) : CallR X (.builtin "min") rMin2 := call_min2 h
theorem c_max2 (h : X.calm = true) : CallR X (.builtin "max") rMax2 := call_max2 h
theorem c_list : CallR X (.type "list") (rListOf X.K) := call_list_of
end
end Wp
set_option Elab.async false
set_option linter.all false
set_option maxRecDepth 100000
set_option maxHeartbeats 4000000
/-! Readings of loops and comprehensions. -/
namespace Wp
open PySem PySem.Spec PyProof.Rows L2
section
variable {t u tw : TS} {D : Ends} {σ : L2.St} {H : Hp} {te ta tb tl : TE} {c tt : TT} {tr : TA} {g : TG} {Q : VK} {QB : Bool → Hp → Prop} {v x y : V} {n : Nat} {b : Bool} {K : PySem.W.Frag} {a : Addr} {xs : List V} {vs : List Nat}
theorem r_cut (Mid : L2.St → Hp → Prop) (h1 : t { D with nx := Mid } σ H) (h2 : ∀ σ' H', Mid σ' H' → u D σ' H') : Evl.tCut t u D σ H := ⟨Mid, h1, h2⟩
/-! for over a list -/
def kForL (K : PySem.W.Frag) (g : TG) (tw : TS) (D : Ends) (σ : L2.St) : VK := fun x H1 => ∃ a, x = .ref a ∧ (∃ xs, SqL K H1 a xs) ∧
  ∃ W : Nat → Nat → L2.St → Hp → Prop, (∃ m, W 0 m σ H1) ∧ ∀ i m σ H, W i m σ H →
  ((Itl K a).stop i H ∧ D.nx σ H) ∨ ((Itl K a).go i H ∧ ∃ N : L2.St → Hp → Prop, (∀ σ' H', N σ' H' → ∃ m', m' < m ∧ W (i + 1) m' σ' H') ∧
    ∀ x H', (Itl K a).yld i H x H' → g x σ H' fun σ2 H2 => tw { D with nx := N, ct := N, bk := D.nx } σ2 H2)
theorem r_forL (h : tl σ H (kForL K g tw D σ)) : tFor (iList K tl) g tw D σ H := h
theorem r_kForL (Pv : Nat → L2.St → Hp → Prop) (hl : SqL K H a xs) (h0 : Pv 0 σ H) (hk : ∀ i σ' H', Pv i σ' H' → SqL K H' a xs)
    (hs : ∀ i x σ' H', xs[i]? = some x → Pv i σ' H' → g x σ' H' fun σ2 H2 => tw { D with nx := Pv (i + 1), ct := Pv (i + 1), bk := D.nx } σ2 H2)
    (hd : ∀ σ' H', Pv xs.length σ' H' → D.nx σ' H') : kForL K g tw D σ (.ref a) H :=
  ⟨a, rfl, ⟨xs, hl⟩, for_list Pv h0 (fun i σ' H' _ p => hk i σ' H' p) hs hd⟩
def kForT (K : PySem.W.Frag) (g : TG) (tw : TS) (D : Ends) (σ : L2.St) : VK := fun x H1 => ∃ a, x = .ref a ∧ (∃ xs, SqT K H1 a xs) ∧
  ∃ W : Nat → Nat → L2.St → Hp → Prop, (∃ m, W 0 m σ H1) ∧ ∀ i m σ H, W i m σ H →
  ((Itt K a).stop i H ∧ D.nx σ H) ∨ ((Itt K a).go i H ∧ ∃ N : L2.St → Hp → Prop, (∀ σ' H', N σ' H' → ∃ m', m' < m ∧ W (i + 1) m' σ' H') ∧
    ∀ x H', (Itt K a).yld i H x H' → g x σ H' fun σ2 H2 => tw { D with nx := N, ct := N, bk := D.nx } σ2 H2)
theorem r_forT (h : tl σ H (kForT K g tw D σ)) : tFor (iTup K tl) g tw D σ H := h
theorem r_kForT (Pv : Nat → L2.St → Hp → Prop) (hl : SqT K H a xs) (h0 : Pv 0 σ H) (hk : ∀ i σ' H', Pv i σ' H' → SqT K H' a xs)
    (hs : ∀ i x σ' H', xs[i]? = some x → Pv i σ' H' → g x σ' H' fun σ2 H2 => tw { D with nx := Pv (i + 1), ct := Pv (i + 1), bk := D.nx } σ2 H2)
    (hd : ∀ σ' H', Pv xs.length σ' H' → D.nx σ' H') : kForT K g tw D σ (.ref a) H :=
  ⟨a, rfl, ⟨xs, hl⟩, for_tup Pv h0 (fun i σ' H' _ p => hk i σ' H' p) hs hd⟩
/-! for over a range -/
def kForR1 (g : TG) (tw : TS) (D : Ends) (σ : L2.St) : List V → Hp → Prop := fun ws H1 => ∃ j : Int, ws = [.int j] ∧ -(2 ^ 62) ≤ j ∧ j < 2 ^ 62 ∧
  ∃ W : Nat → Nat → L2.St → Hp → Prop, (∃ m, W 0 m σ H1) ∧ ∀ i m σ H, W i m σ H →
  ((Itr 0 j.toNat).stop i H ∧ D.nx σ H) ∨ ((Itr 0 j.toNat).go i H ∧ ∃ N : L2.St → Hp → Prop, (∀ σ' H', N σ' H' → ∃ m', m' < m ∧ W (i + 1) m' σ' H') ∧
    ∀ x H', (Itr 0 j.toNat).yld i H x H' → g x σ H' fun σ2 H2 => tw { D with nx := N, ct := N, bk := D.nx } σ2 H2)
theorem r_forR1 (h : tr σ H (kForR1 g tw D σ)) : tFor (iRng1 tr) g tw D σ H := h
theorem r_kForR1 {j : Int} (Pv : Nat → L2.St → Hp → Prop) (hj : -1000000000 ≤ j ∧ j ≤ 1000000000) (h0 : Pv 0 σ H)
    (hs : ∀ (i : Nat) σ' H', (i : Int) < j → Pv i σ' H' → g (.int (i : Int)) σ' H' fun σ2 H2 => tw { D with nx := Pv (i + 1), ct := Pv (i + 1), bk := D.nx } σ2 H2)
    (hd : ∀ σ' H', Pv j.toNat σ' H' → D.nx σ' H') : kForR1 g tw D σ [.int j] H :=
  ⟨j, rfl, by omega, by omega, for_range Pv h0 (fun i σ' H' hi p => by
    have e : (0 : Int) + (i : Int) = (i : Int) := Int.zero_add _
    rw [e]
    exact hs i σ' H' (by omega) p) hd⟩
def kForR2 (g : TG) (tw : TS) (D : Ends) (σ : L2.St) : List V → Hp → Prop := fun ws H1 => ∃ i0 j : Int, ws = [.int i0, .int j] ∧ (-(2 ^ 62) ≤ i0 ∧ i0 < 2 ^ 62 ∧ -(2 ^ 62) ≤ j ∧ j < 2 ^ 62) ∧
  ∃ W : Nat → Nat → L2.St → Hp → Prop, (∃ m, W 0 m σ H1) ∧ ∀ i m σ H, W i m σ H →
  ((Itr i0 (j - i0).toNat).stop i H ∧ D.nx σ H) ∨ ((Itr i0 (j - i0).toNat).go i H ∧ ∃ N : L2.St → Hp → Prop, (∀ σ' H', N σ' H' → ∃ m', m' < m ∧ W (i + 1) m' σ' H') ∧
    ∀ x H', (Itr i0 (j - i0).toNat).yld i H x H' → g x σ H' fun σ2 H2 => tw { D with nx := N, ct := N, bk := D.nx } σ2 H2)
theorem r_forR2 (h : tr σ H (kForR2 g tw D σ)) : tFor (iRng2 tr) g tw D σ H := h
theorem r_kForR2 {lo j : Int} (Pv : Nat → L2.St → Hp → Prop) (hj : -1000000000 ≤ lo ∧ lo ≤ 1000000000 ∧ -1000000000 ≤ j ∧ j ≤ 1000000000) (h0 : Pv 0 σ H)
    (hs : ∀ (i : Nat) σ' H', lo + (i : Int) < j → Pv i σ' H' → g (.int (lo + (i : Int))) σ' H' fun σ2 H2 => tw { D with nx := Pv (i + 1), ct := Pv (i + 1), bk := D.nx } σ2 H2)
    (hd : ∀ σ' H', Pv (j - lo).toNat σ' H' → D.nx σ' H') : kForR2 g tw D σ [.int lo, .int j] H :=
  ⟨lo, j, rfl, ⟨by omega, by omega, by omega, by omega⟩, for_range Pv h0 (fun i σ' H' hi p => hs i σ' H' (by omega) p) hd⟩
/-! while -/
def kWh (W : Nat → L2.St → Hp → Prop) (tw : TS) (D : Ends) (σ : L2.St) (m : Nat) : Bool → Hp → Prop := fun b H1 => if b = true then
  ∃ N : L2.St → Hp → Prop, (∀ σ' H', N σ' H' → ∃ m', m' < m ∧ W m' σ' H') ∧ tw { D with nx := N, ct := N, bk := D.nx } σ H1 else D.nx σ H1
def nWh (W : Nat → L2.St → Hp → Prop) (m : Nat) : L2.St → Hp → Prop := fun σ' H' => ∃ m', m' < m ∧ W m' σ' H'
theorem r_while (W : Nat → L2.St → Hp → Prop) (m : Nat) (h0 : W m σ H) (hs : ∀ m σ' H', W m σ' H' → c σ' H' (kWh W tw D σ' m)) : tWhile c tw D σ H := ⟨W, ⟨m, h0⟩, hs⟩
theorem r_kWh {W : Nat → L2.St → Hp → Prop} {m : Nat} (h1 : b = true → tw { D with nx := nWh W m, ct := nWh W m, bk := D.nx } σ H) (h2 : b = false → D.nx σ H) : kWh W tw D σ m b H := by
  unfold kWh
  cases b with
  | true => exact iteT ⟨nWh W m, fun _ _ z => z, h1 rfl⟩
  | false => exact iteF (h2 rfl)
/-! list comprehensions -/
def kLcE (Da : Addr) (Pv : Addr → Nat → Hp → Prop) (i : Nat) : VK := fun y H4 => ∃ acc, H4 Da = some (.lst acc) ∧ acc.length < sizeLine ∧ Pv Da (i + 1) (upd H4 Da (.lst (acc ++ [y])))
def kLcT (te : TE) (σ2 : L2.St) (Da : Addr) (Pv : Addr → Nat → Hp → Prop) (i : Nat) : Bool → Hp → Prop := fun b H3 => if b = true then te σ2 H3 (kLcE Da Pv i) else Pv Da (i + 1) H3
def kLcG (tt : TT) (te : TE) (vs : List Nat) (σ : L2.St) (Da : Addr) (Pv : Addr → Nat → Hp → Prop) (i : Nat) : L2.St → Hp → Prop := fun σ2 H2 => wipe σ2 vs = wipe σ vs ∧ tt σ2 H2 (kLcT te σ2 Da Pv i)
theorem r_yes (q : QB true H) : tYes σ H QB := q
section
variable {Da : Addr} {Pv : Addr → Nat → Hp → Prop} {i : Nat} {σ2 : L2.St} {acc : List V}
theorem r_kLcG (h : wipe σ2 vs = wipe σ vs) (q : tt σ2 H (kLcT te σ2 Da Pv i)) : kLcG tt te vs σ Da Pv i σ2 H := ⟨h, q⟩
theorem r_kLcT (q : if b = true then te σ2 H (kLcE Da Pv i) else Pv Da (i + 1) H) : kLcT te σ2 Da Pv i b H := q
theorem r_kLcE (h : H Da = some (.lst acc)) (hz : acc.length < 1000000) (q : ∀ H', But Da H H' → H' Da = some (.lst (acc ++ [y])) → Pv Da (i + 1) H') : kLcE Da Pv i y H :=
  ⟨acc, h, sz6 hz, q _ But.upd upd_same⟩
end
def kLcL (K : PySem.W.Frag) (g : TG) (tt : TT) (te : TE) (vs : List Nat) (σ : L2.St) (Q : VK) : VK := fun x H1 => ∃ a, x = .ref a ∧ (∃ xs, SqL K H1 a xs) ∧ ∀ Da, H1 Da = none → ∃ W : Nat → Nat → Hp → Prop, (∃ m, W 0 m (upd H1 Da (.lst []))) ∧ ∀ i m H, W i m H →
  ((Itl K a).stop i H ∧ Q (.ref Da) H) ∨ ((Itl K a).go i H ∧ ∃ Nx : Hp → Prop, (∀ H', Nx H' → ∃ m', m' < m ∧ W (i + 1) m' H') ∧ ∀ x H', (Itl K a).yld i H x H' → g x (wipe σ vs) H' fun σ2 H2 => wipe σ2 vs = wipe σ vs ∧ tt σ2 H2 fun b H3 =>
    if b = true then te σ2 H3 fun y H4 => ∃ acc, H4 Da = some (.lst acc) ∧ acc.length < sizeLine ∧ Nx (upd H4 Da (.lst (acc ++ [y]))) else Nx H3)
theorem r_lcL (q : tl σ H (kLcL K g tt te vs σ Q)) : tLc (iList K tl) g tt te vs σ H Q := q
theorem r_kLcL (Pv : Addr → Nat → Hp → Prop) (hl : SqL K H a xs) (h0 : ∀ Da H', H Da = none → Same H H' → H' Da = some (.lst []) → Pv Da 0 H') (hk : ∀ Da i H', Pv Da i H' → SqL K H' a xs)
    (hs : ∀ Da i x H', H Da = none → xs[i]? = some x → Pv Da i H' → g x (wipe σ vs) H' (kLcG tt te vs σ Da Pv i)) (hd : ∀ Da H', H Da = none → Pv Da xs.length H' → Q (.ref Da) H') : kLcL K g tt te vs σ Q (.ref a) H :=
  ⟨a, rfl, ⟨xs, hl⟩, fun Da hD => lc_list (Pv Da) (h0 Da _ hD (Same.new hD) upd_same) (fun i H' _ p => hk Da i H' p) (fun i x H' hx p => hs Da i x H' hD hx p) (fun H' p => hd Da H' hD p)⟩
def kLcR1 (g : TG) (tt : TT) (te : TE) (vs : List Nat) (σ : L2.St) (Q : VK) : List V → Hp → Prop := fun ws H1 => ∃ j : Int, ws = [.int j] ∧ -(2 ^ 62) ≤ j ∧ j < 2 ^ 62 ∧ ∀ Da, H1 Da = none → ∃ W : Nat → Nat → Hp → Prop, (∃ m, W 0 m (upd H1 Da (.lst []))) ∧ ∀ i m H, W i m H →
  ((Itr 0 j.toNat).stop i H ∧ Q (.ref Da) H) ∨ ((Itr 0 j.toNat).go i H ∧ ∃ Nx : Hp → Prop, (∀ H', Nx H' → ∃ m', m' < m ∧ W (i + 1) m' H') ∧ ∀ x H', (Itr 0 j.toNat).yld i H x H' → g x (wipe σ vs) H' fun σ2 H2 => wipe σ2 vs = wipe σ vs ∧ tt σ2 H2 fun b H3 =>
    if b = true then te σ2 H3 fun y H4 => ∃ acc, H4 Da = some (.lst acc) ∧ acc.length < sizeLine ∧ Nx (upd H4 Da (.lst (acc ++ [y]))) else Nx H3)
theorem r_lcR1 (q : tr σ H (kLcR1 g tt te vs σ Q)) : tLc (iRng1 tr) g tt te vs σ H Q := q
theorem r_kLcR1 {j : Int} (Pv : Addr → Nat → Hp → Prop) (hj : -1000000000 ≤ j ∧ j ≤ 1000000000) (h0 : ∀ Da H', H Da = none → Same H H' → H' Da = some (.lst []) → Pv Da 0 H')
    (hs : ∀ Da (i : Nat) H', H Da = none → (i : Int) < j → Pv Da i H' → g (.int (i : Int)) (wipe σ vs) H' (kLcG tt te vs σ Da Pv i)) (hd : ∀ Da H', H Da = none → Pv Da j.toNat H' → Q (.ref Da) H') : kLcR1 g tt te vs σ Q [.int j] H :=
  ⟨j, rfl, by omega, by omega, fun Da hD => lc_range (Pv Da) (h0 Da _ hD (Same.new hD) upd_same) (fun i H' hi p => by
    have e : (0 : Int) + (i : Int) = (i : Int) := Int.zero_add _
    rw [e]
    exact hs Da i H' hD (by omega) p) (fun H' p => hd Da H' hD p)⟩
end
end Wp
set_option Elab.async false
set_option linter.all false
set_option maxRecDepth 100000
set_option maxHeartbeats 4000000
/-! Data: lists of ints, == of data. -/
namespace Wp
open PySem PySem.Spec PyProof.Rows L2
section
variable {K : PySem.W.Frag} {H H' : Hp} {p q : Addr} {Q : VK} {as bs : List Int} {x y : V} {d e : PyData}
theorem dp_ints : ∀ ns : List Int, DpAll K H (ns.map V.int) (ns.map PyData.int)
  | [] => .nil
  | n :: r => .cons (.int n) (dp_ints r)
theorem lay_ints : ∀ ns : List Int, PyData.canLayAll0 (ns.map PyData.int) = true
  | [] => rfl
  | n :: r => by
    show (PyData.canLay0 (.int n) && PyData.canLayAll0 (r.map PyData.int)) = true
    rw [lay_ints r]
    rfl
theorem dep_ints : ∀ ns : List Int, PyData.depthAll (ns.map PyData.int) = 0
  | [] => rfl
  | n :: r => by
    show max (PyData.depth (.int n)) (PyData.depthAll (r.map PyData.int)) = 0
    rw [dep_ints r]
    rfl
theorem shp_ints (ns : List Int) : SeqAt.shaped (.list (ns.map PyData.int)) = true := by
  show (PyData.canLayAll0 (ns.map PyData.int) && decide (PyData.depthAll (ns.map PyData.int) + 1 ≤ 64)) = true
  rw [lay_ints, dep_ints]
  rfl
theorem eqv_ints : ∀ as bs : List Int, PyData.eqvAll (as.map PyData.int) (bs.map PyData.int) = decide (as = bs)
  | [], [] => by simp [PyData.eqvAll]
  | [], _ :: _ => by simp [PyData.eqvAll]
  | _ :: _, [] => by simp [PyData.eqvAll]
  | a :: r, b :: s => by
    show (PyData.eqv (.int a) (.int b) && PyData.eqvAll (r.map PyData.int) (s.map PyData.int)) = _
    rw [eqv_ints r s]
    show ((a == b) && decide (r = s)) = decide (a :: r = b :: s)
    rw [Bool.eq_iff_iff]
    simp
theorem r_neLI (h1 : SqL K H p (as.map V.int)) (h2 : SqL K H q (bs.map V.int)) (k : Q (.bl (!decide (as = bs))) H) : rNeD K (.ref p) (.ref q) H Q := by
  refine ⟨.list (as.map .int), .list (bs.map .int), .lst h1 (dp_ints as), .lst h2 (dp_ints bs), shp_ints as, shp_ints bs, ?_⟩
  show Q (.bl (!PyData.eqvAll (as.map PyData.int) (bs.map PyData.int))) H
  rw [eqv_ints]
  exact k
theorem r_eqLI (h1 : SqL K H p (as.map V.int)) (h2 : SqL K H q (bs.map V.int)) (k : Q (.bl (decide (as = bs))) H) : rEqD K (.ref p) (.ref q) H Q := by
  refine ⟨.list (as.map .int), .list (bs.map .int), .lst h1 (dp_ints as), .lst h2 (dp_ints bs), shp_ints as, shp_ints bs, ?_⟩
  show Q (.bl (PyData.eqvAll (as.map PyData.int) (bs.map PyData.int))) H
  rw [eqv_ints]
  exact k
mutual
theorem Dp.mono (e : Same H H') : ∀ {d : PyData} {v : V}, Dp K H v d → Dp K H' v d
  | _, _, .non => .non
  | _, _, .bl b => .bl b
  | _, _, .int i => .int i
  | _, _, .str x => .str x
  | _, _, .lst h r => .lst (e.seq h) (DpAll.mono e r)
  | _, _, .tup h r => .tup (Evl.ex_t e h) (DpAll.mono e r)
theorem DpAll.mono (e : Same H H') : ∀ {ds : List PyData} {vs : List V}, DpAll K H vs ds → DpAll K H' vs ds
  | _, _, .nil => .nil
  | _, _, .cons a r => .cons (Dp.mono e a) (DpAll.mono e r)
end
theorem r_popAt0 {l : Addr} {z : V} {zs : List V} (h : H l = some (.lst (z :: zs))) (k : ∀ H', But l H H' → H' l = some (.lst zs) → Q z H') : rPopAt (.ref l) [.int 0] H Q :=
  ⟨l, z :: zs, 0, 0, z, rfl, rfl, h, by decide, by decide, by simp [seqIndex?], rfl, k _ But.upd upd_same⟩
theorem at_get {α : Type} {xs : List α} {i : Int} {n : Nat} {v : α} (h0 : i = (n : Int)) (h : xs[n]? = some v) : atI xs i = some v := by
  rw [h0]
  exact atI_nat h
theorem at_last {α : Type} (xs : List α) (z : α) : atI (xs ++ [z]) (-1) = some z := by
  unfold atI ixN
  rw [if_neg (by decide)]
  have h : -(((xs ++ [z]).length : Nat) : Int) ≤ -1 := by
    rw [List.length_append]
    show -(((xs.length + 1 : Nat)) : Int) ≤ -1
    omega
  rw [if_pos h]
  have e : ((-1 : Int) + (((xs ++ [z]).length : Nat) : Int)).toNat = xs.length := by
    rw [List.length_append]
    show ((-1 : Int) + ((xs.length + 1 : Nat) : Int)).toNat = xs.length
    omega
  show ((some ((-1 : Int) + (((xs ++ [z]).length : Nat) : Int)).toNat).bind fun j => (xs ++ [z])[j]?) = some z
  rw [e]
  simp
theorem take_more {α : Type} {xs : List α} {i : Nat} {x : α} (h : xs[i]? = some x) : xs.take (i + 1) = xs.take i ++ [x] := by
  rw [List.take_succ, h]
  rfl
theorem r_eqD_eq (h1 : Dp K H x d) (h2 : Dp K H y d) (hs : SeqAt.shaped d = true) (k : Q (.bl true) H) : rEqD K x y H Q := by
  refine ⟨d, d, h1, h2, hs, hs, ?_⟩
  rw [SeqAt.eqv_refl d (SeqAt.canLay_of_shaped hs)]
  exact k
theorem r_neD_eq (h1 : Dp K H x d) (h2 : Dp K H y d) (hs : SeqAt.shaped d = true) (k : Q (.bl false) H) : rNeD K x y H Q := by
  refine ⟨d, d, h1, h2, hs, hs, ?_⟩
  rw [SeqAt.eqv_refl d (SeqAt.canLay_of_shaped hs)]
  exact k
theorem r_cat {l b : Addr} {xs ys : List V} (h1 : H l = some (.lst xs)) (h2 : H b = some (.lst ys)) (hz : xs.length + ys.length ≤ 1000000) (k : ∀ p H', H p = none → Same H H' → H' p = some (.lst (xs ++ ys)) → Q (.ref p) H') : rCat (.ref l) (.ref b) H Q :=
  ⟨l, b, xs, ys, rfl, rfl, h1, h2, sz5 hz, fun p hp => k p _ hp (Same.new hp) upd_same⟩
/-! displays of dicts -/
theorem mergeK_app : ∀ (more kvs : List (Key × V)), ((kvs ++ more).map (·.1)).Nodup → mergeK kvs more = kvs ++ more
  | [], kvs, _ => by
    rw [List.append_nil]
    rfl
  | (k, v) :: r, kvs, h => by
    have hn : valV kvs k = none := by
      cases e : valV kvs k with
      | none => rfl
      | some u =>
        have hm := valV_in e
        rw [List.map_append] at h
        exact absurd rfl ((List.nodup_append.mp h).2.2 k hm k (by simp))
    show mergeK (putK kvs k v) r = _
    rw [putK_new v hn]
    have e : (kvs ++ [(k, v)]) ++ r = kvs ++ (k, v) :: r := by simp
    rw [mergeK_app r (kvs ++ [(k, v)]) (by rw [e]; exact h), e]
theorem mergeK_nil {kvs : List (Key × V)} (h : (kvs.map (·.1)).Nodup) : mergeK [] kvs = kvs := mergeK_app kvs [] h
def kDisp (p : Addr) (Q : VK) : List (V × V) → Hp → Prop := fun ps H2 => H2 p = some (.dK []) ∧ ∃ kvs : List (Key × V), ps = kvs.map (fun kv => (kV kv.1, kv.2)) ∧ kvs.length ≤ 15 ∧ Q (.ref p) (upd H2 p (.dK (mergeK [] kvs)))
section
variable {σ : L2.St} {tk tv : TE} {trs : List (TE × TE)} {QP : List (V × V) → Hp → Prop} {kvs : List (Key × V)} {ps : List (V × V)}
theorem r_disp (q : ∀ p H', H p = none → Same H H' → H' p = some (.dK []) → tPairs trs σ H' (kDisp p Q)) : tDisp trs σ H Q := fun p hp => q p _ hp (Same.new hp) upd_same
theorem r_pnil (q : QP [] H) : tPairs [] σ H QP := q
theorem r_pcons (q : tk σ H fun x H1 => tv σ H1 fun y H2 => tPairs trs σ H2 fun ps H3 => QP ((x, y) :: ps) H3) : tPairs ((tk, tv) :: trs) σ H QP := q
theorem r_kDisp (kvs : List (Key × V)) (h : H p = some (.dK [])) (e : ps = kvs.map (fun kv => (kV kv.1, kv.2))) (hl : kvs.length ≤ 15) (hn : (kvs.map (·.1)).Nodup) (q : ∀ H', But p H H' → H' p = some (.dK kvs) → Q (.ref p) H') : kDisp p Q ps H :=
  ⟨h, kvs, e, hl, q _ But.upd (by rw [mergeK_nil hn]; exact upd_same)⟩
end
end
end Wp
set_option Elab.async false
set_option linter.all false
set_option maxRecDepth 100000
set_option maxHeartbeats 4000000
/-! Defs that call repr: they run where no repr is under way (the guards are known). repr of data. list(range(a, b, c)). -/
namespace Wp
open PySem PySem.Spec PyProof.Rows L2
/-- the promise of a def wherever no repr runs around it -/
structure FnG (P : Program) (w : World) (K : PySem.W.Frag) (mg : Str → Option Value) (base : Heap) (CX : CXT)
    (k : Nat) (f : Addr) (fd : FuncData) (ps : List Str) (sp : Sp) : Prop where
  len : ∀ vs H Q E, sp vs H Q E → vs.length = ps.length
  run : ∀ (A : Around) (outer : List Env) (s : Shared) (H : Hp) (args : Args) (us : List Value) (vs : List V) (Q : VK) (E : XK),
    Room k A → A.guards = some [] → Env0 P w K mg base A outer s H → BindsTo s fd args (ps.zip us) → Vals vs us → sp vs H Q E →
    codeAny (model P w) A (.call (.ref f) args) (CR CX outer P w H s Q E) s
section
variable {P : Program} {w : World} {K : PySem.W.Frag} {mg : Str → Option Value} {base : Heap}
theorem FnG.of {CX : CXT} {k : Nat} {f : Addr} {fd : FuncData} {ps : List Str} {sp : Sp} (F : FnOk P w K mg base CX k f fd ps sp) : FnG P w K mg base CX k f fd ps sp :=
  ⟨F.len, fun A outer s H args us vs Q E hr _ => F.run A outer s H args us vs Q E hr⟩
/-- where a def's body ends -/
theorem ends_ok {CX : CXT} {N : List Str} {qual : Str} {scope : Scope} {f : Addr} {cdv : Value} {A : Around} {outer : List Env} {s : Shared} {H : Hp} {Q : VK} {E : XK} {fl : Flow} {s' : Shared}
    (h : SP (cxOf CX P w K mg base N qual scope f cdv A outer s H E) [] { nx := fun _ H' => Q .non H', rt := Q } fl s') :
    match fl with | .ret u => CE outer P w H s Q u s' | .next => CE outer P w H s Q .none s' | _ => False := by
  cases fl with
  | ret u =>
    obtain ⟨v, τ, H2, J, rv, q⟩ := h
    exact ⟨v, H2, J.os, J.bare, J.base, J.hok, rv, q⟩
  | next =>
    obtain ⟨τ, H2, J, q⟩ := h
    exact ⟨V.non, H2, J.os, J.bare, J.base, J.hok, rfl, q⟩
  | brk =>
    obtain ⟨_, _, _, q⟩ := h
    exact q
  | cont =>
    obtain ⟨_, _, _, q⟩ := h
    exact q
end
section
variable {P : Program} {w : World} {K : PySem.W.Frag} {mg : Str → Option Value} {base : Heap} {x qual : Str} {params : Arguments} {body : List Stmt} {scope : Scope} {dvs : List V} {kws : List (Str × V)} {f : Addr} {fd : FuncData}
theorem _root_.L2.FunD.okG {CX : CXT} {N ps : List Str} {k : Nat} {sp : Sp} (F : FunD K x qual params body scope dvs kws f fd) (S : FnScope N ps scope)
    (len : ∀ vs H Q E, sp vs H Q E → vs.length = ps.length)
    (hbody : ∀ (cdv : Value) (A : Around) (outer : List Env) (s : Shared) (H : Hp) (vs : List V) (Q : VK) (E : XK),
      Room k (A.deeper (envOfC qual scope s.heap.objs.size f cdv)) → (A.deeper (envOfC qual scope s.heap.objs.size f cdv)).guards = some [] → sp vs H Q E →
      ∃ t, PSs (cxOf CX P w K mg base N qual scope f cdv A outer s H E) body t ∧ t { nx := fun _ H' => Q .non H', rt := Q } (L2.start N vs) H) :
    FnG P w K mg base CX (k + 1) f fd ps sp := by
  obtain ⟨oc, od, dV, kV, doc, pm, an, cdv, ct, osl, rfl, lk, hcd, _, _⟩ := F.ex
  refine ⟨len, ?_⟩
  intro A outer s H args us vs Q E hr hg e0 hb r hsp
  have inK : K.In s.heap := e0.mod.kin.keeps fun a ob q => (e0.bs a ob q).1
  have noLim : s.heap.NoLimit := e0.mod.nolimit.keeps fun a ob q => (e0.bs a ob q).1
  refine codeAny_call_function hr.depth (inK _ _ lk) rfl S.co S.gen rfl (PySem.W.codeRec_of inK hcd) (hb _ _ _ _ ?_)
  refine wpAny_newFunctionEnv_cells S.kind (fun y hy => ?_) fun env he s1 inC => ?_
  · rcases S.par y.1 (List.of_mem_zip hy).1 with z | z
    · exact Or.inl z
    · exact Or.inr ⟨z, PySem.W.cellsFrom_some _ _ _ (Or.inl z)⟩
  · subst he
    obtain ⟨t, ht, hq⟩ := hbody cdv A outer s H vs Q E (hr.deeper _) hg hsp
    refine ⟨noLim.keeps inC.toInCall.keep, codeAny_func ?_⟩
    refine wpAny_mono (ht.run [] s1 _ H _ (inv_start S hr.hd e0 (len _ _ _ _ hsp) r inC) hq) (fun fl s2 hs => ?_) fun _ _ z => z
    have z := ends_ok hs
    cases fl <;> first | exact z | exact z.elim
end
/-- a guarded def of the top, called by its name -/
structure Dg (P : Program) (w : World) (K : PySem.W.Frag) (mg : Str → Option Value) (base : Heap)
    (CX : CXT) (k : Nat) (x : Str) (ps : List Str) (sp : Sp) : Prop where
  ex : ∃ fd, FnG P w K mg base CX k (He.ga K x) fd ps sp ∧ Binds K fd ps []
  gm : mg x = some (.ref (He.ga K x))
  kp : PySem.W.keepIn K (.ref (He.ga K x)) = true
section
variable {X : Cx}
theorem run_fnG {CX : CXT} {k : Nat} {f : Addr} {fd : FuncData} {ps : List Str} {sp : Sp} {E : XK} {pins : List (Addr × Obj)} {σ : L2.St} {H : Hp} {s : Shared} {Q : VK} {us : List Value} {vs : List V}
    (F : FnG X.prog X.w X.K X.mg X.base CX k f fd ps sp) (hr : Room k X.A) (hG : X.A.guards = some []) (hb : Binds X.K fd ps []) (hx : Passes CX X E)
    (I : Inv X pins σ H s) (r : Vals vs us) (h : sp vs H Q E) : wpAny (model X.prog X.w) X.A (call (.ref f) us) (EP X pins σ Q) X.xe s := by
  have hl : us.length = ps.length := r.length.symm.trans (F.len _ _ _ _ h)
  have hb2 := hb s us I.kIn (by rw [List.append_nil]; exact hl)
  rw [List.append_nil] at hb2
  refine wpAny_call (codeAny_mono (F.run X.A X.stack s H ⟨us, []⟩ us vs Q E hr hG I.env0 hb2 r h) fun res s2 hq => ?_)
  cases res with
  | error e => exact hx pins σ H s e s2 I hq
  | ok fl =>
    cases fl with
    | ret u => exact I.after hq
    | next => exact hq.elim
    | brk => exact hq.elim
    | cont => exact hq.elim
theorem pe_fnG {CX : CXT} {k : Nat} {x : Str} {ps : List Str} {sp : Sp} {E : XK} {e : Expr} {es : List Expr}
    {t : TA} {p pos : Pos} (D : Dg X.prog X.w X.K X.mg X.base CX k x ps sp) (hr : Room k X.A) (hG : X.A.guards = some [])
    (hx : Passes CX X E) (ha : PA X (e :: es) t) (hg : Gl X x := by rfl)
    (hdb : (x == ("__debug__" : Str)) = false := by decide)
    (he : starEach (e :: es) X.env = (false, eval e X.env) :: starEach es X.env := by rfl)
    (hpl : (backTo pos (starEach es X.env)).any (·.1) = false := by rfl) :
    PE X (.Call (.Name x p) (e :: es) [] pos) (tFn sp E t) := by
  obtain ⟨fd, F, b⟩ := D.ex
  refine ⟨fun pins s σ H Q I h => wpAny_Call_Name_kw (ld_glob I hg D.gm ?_ hdb)⟩
  refine PySem.W.callWith_K (h₀ := X.base) I.ok.mod.kin D.kp (thn (ha.run pos pins s σ H _ I h) ?_) he hpl
  rintro us s1 ⟨vs, H1, I1, r, q⟩
  exact ⟨I1.kIn, run_fnG F hr hG b hx I1 r q⟩
end
/-! ### repr of data -/
def rRepr (K : PySem.W.Frag) : List V → Hp → VK → Prop := fun xs H Q => ∃ (v : V) (d : PyData), xs = [v] ∧ Dp K H v d ∧ d.showable = true ∧ d.depth ≤ 60 ∧ d.shown.length ≤ sizeLine ∧ d.hasDict = false ∧ Q (.str d.shown) H
theorem call_reprD {X : Cx} {k : Nat} (hG : X.A.guards = some []) (hr : Room k X.A) : CallR X (.builtin "repr") (rRepr X.K) := by
  intro pins s σ H xs us Q I r h
  obtain ⟨v, d, rfl, hd, hs, hdep, hlen, hnd, q⟩ := h
  obtain ⟨u, rfl, ru⟩ := vals1 r
  have hu : X.A.units + (d.depth + 1) < cLine := by
    have := hr.units
    omega
  obtain ⟨as, rd⟩ := Dp.reads I d v u hd ru
  have noD : d.hasDict = true → sysModules ∉ as := fun z => by rw [hnd] at z; cases z
  cases rd with
  | none => exact PySem.P.repr_of_none ⟨.str _, H, I.tok _, ⟨_, rfl⟩, q⟩
  | bool b => exact PySem.P.repr_of_bool ⟨.str _, H, I.tok _, ⟨_, rfl⟩, q⟩
  | int i t => exact PySem.P.repr_of_int (of_decide_eq_true hs) ⟨.str _, H, I.tok _, ⟨_, rfl⟩, q⟩
  | str z t => exact PySem.P.repr_of_str ⟨.str _, H, I.tok _, ⟨_, rfl⟩, q⟩ hlen
  | list h1 h2 h3 h4 =>
    exact repr_of_reads' (.list h1 h2 h3 h4) hs noD hG hu (fun _ _ z => z) (fun h' t2 tk kp => ⟨.str _, H, I.kept kp, ⟨_, rfl⟩, q⟩) hlen
  | tuple h1 h2 h3 h4 =>
    exact repr_of_reads' (.tuple h1 h2 h3 h4) hs noD hG hu (fun _ _ z => z) (fun h' t2 tk kp => ⟨.str _, H, I.kept kp, ⟨_, rfl⟩, q⟩) hlen
  | dict h1 h2 h3 h4 h5 => exact absurd hnd (by simp [PyData.hasDict])
/-! ### the law itself: run by the claim's caller, around which nothing is -/
theorem law_callG {P : Program} {w : World} {K : PySem.W.Frag} {mg mb : Str → Option Value} {CX : CXT} {k : Nat} {fa a : Addr} {fd : FuncData} {x : Str} {sp : Sp} {s1 : Shared} {us : List Value} {zs : List Int}
    (inK : K.In s1.heap) (gl : s1.heap.Ns mainGlobals mg) (bl : s1.heap.Ns builtinsNs mb) (same : ∀ x : Str, x ≠ "__name__" → mb x = bootBuiltins x) (noLim : s1.heap.NoLimit) (gens : s1.gens = #[])
    (ha : s1.heap.get? a = some { cls := .type "list", data := .seq us.toArray }) (hi : IntsAre us zs) (hl : zs.length ≤ sizeLine) (hr : Room k callerA)
    (F : ∀ base : Heap, K.In base → base.Ns mainGlobals mg → FnG P w K mg base CX k fa fd [x] sp) (bind : ∀ (s : Shared) (u : Value), BindsTo s fd ⟨[u], []⟩ [(x, u)])
    (hsp : ∀ H : Hp, Only H → SqL K H a (zs.map V.int) → sp [.ref a] H (fun v _ => v = .bl true) fun _ _ _ => False)
    (hCX : ∀ H e s', CX [] H s1 (fun _ _ _ => False) e s' → False) :
    codeAny (model P w) callerA (.call (.ref fa) ⟨[.ref a], []⟩) (fun r s' => r = .ok (.ret (.bool true)) ∧ OldK s1.heap s'.heap ∧ s'.os = s1.os ∧ AllBare s'.gens) s1 := by
  -- the abstract heap H0 tracks at most the script
  have go : ∀ H0 : Hp, Only H0 → SqL K H0 a (zs.map V.int) → HOk P w H0 s1.heap → (∀ b, H0 b ≠ none → b = a) → (H0 a ≠ none → K.lookup a = none) →
      codeAny (model P w) callerA (.call (.ref fa) ⟨[.ref a], []⟩) (fun r s' => r = .ok (.ret (.bool true)) ∧ OldK s1.heap s'.heap ∧ s'.os = s1.os ∧ AllBare s'.gens) s1 := by
    intro H0 only sq hok onlyA kA
    have dictFree : ∀ (b : Addr) (o : Obj) (es : Array DictEntry) (ep : Nat), s1.heap.get? b = some o → o.data = .dict es ep → H0 b = none := by
      intro b o es ep e d
      cases q : H0 b with
      | none => rfl
      | some u =>
        obtain rfl : b = a := onlyA b (by rw [q]; simp)
        rw [ha] at e
        cases e
        cases d
    have nsH : ∀ (b : Addr) (m : Str → Option Value), s1.heap.Ns b m → (hidT s1.heap H0).Ns b m := by
      rintro b m ⟨o, es, ep, e, d, r⟩
      exact ⟨o, es, ep, hidT_get e (dictFree b o es ep e d), d, r⟩
    have inH : K.In (hidT s1.heap H0) := by
      intro b o e
      refine hidT_get (inK b o e) ?_
      cases q : H0 b with
      | none => rfl
      | some u =>
        obtain rfl : b = a := onlyA b (by rw [q]; simp)
        rw [kA (by rw [q]; simp)] at e
        cases e
    obtain ⟨mc, l1, l2⟩ := noLim
    have md : Mod K mg (hidT s1.heap H0) := ⟨inH, nsH _ _ gl, ⟨mb, nsH _ _ bl, same⟩, ⟨mc, nsH _ _ l1, l2⟩⟩
    have e0 : Env0 P w K mg (hidT s1.heap H0) callerA [] s1 H0 :=
      ⟨rfl, md, fun b o e => of_hidT e, Nat.le_of_eq (hidT_size _ _), trivial, (fun b hb => nomatch hb), hok, .of_eq gens⟩
    have run := (F _ inH (nsH _ _ gl)).run callerA [] s1 H0 ⟨[.ref a], []⟩ [.ref a] [.ref a] _ _ hr rfl e0 (bind s1 (.ref a)) (.cons rfl .nil) (hsp H0 only sq)
    refine codeAny_mono run fun res s2 h => ?_
    cases res with
    | error e => exact (hCX H0 e s2 h).elim
    | ok fl =>
      cases fl with
      | next => exact h.elim
      | brk => exact h.elim
      | cont => exact h.elim
      | ret u =>
        obtain ⟨v, H2, os2, bare2, un, hok2, rv, q⟩ := h
        obtain rfl : v = .bl true := q
        obtain rfl : u = Value.bool true := rv
        refine ⟨rfl, OldK.of_keep fun b o e => ?_, os2, bare2⟩
        rcases only b with z | ⟨ob, xs, z⟩
        · exact un.keep b o e z (fun y => nomatch y) (fun y => nomatch y)
        · obtain ⟨g1, _⟩ := hok b _ z
          obtain ⟨g2, _⟩ := hok2 b _ (un.frzs b ob _ z)
          rw [e] at g1
          cases g1
          exact g2
  cases hk : K.lookup a with
  | some o =>
    have e := inK a o hk
    rw [ha] at e
    cases e
    exact go (fun _ => none) (fun _ => .inl rfl) (.inr ⟨_, us.toArray, _, hk, rfl, rfl, rfl, by rw [List.size_toArray, hi.length]; exact hl, by simpa using vals_ints hi⟩)
      (fun b u z => nomatch z) (fun b z => absurd rfl z) fun z => absurd rfl z
  | none =>
    let fz : HO := .frz { cls := .type "list", data := .seq us.toArray } (.lst (zs.map V.int))
    have atA : upd (fun _ => none) a fz a = some fz := upd_same
    refine go (upd (fun _ => none) a fz) (fun b => ?_) (.inl (.inr ⟨_, atA⟩)) (fun b u z => ?_) (fun b z => ?_) fun _ => hk
    · by_cases hb : b = a
      · subst hb
        exact .inr ⟨_, _, atA⟩
      · exact .inl (upd_ne hb)
    · by_cases hb : b = a
      · subst hb
        rw [atA] at z
        cases z
        exact ⟨ha, by rw [List.length_map]; exact hl, us, _, vals_ints hi, ha⟩
      · rw [upd_ne hb] at z
        cases z
    · by_cases hb : b = a
      · exact hb
      · exact absurd (upd_ne hb) z
theorem walk_ofG {l : PySem.W.OpenLaw} {n k : Nat} {q : Program} {loose : List Str} {XP : (Str → Option Value) → Heap → Prop} {YP : World → Heap → Prop} {d : DefRec} {CX : CXT} {x : Str}
    (hn : l.most = some n) (hn2 : n ≤ sizeLine) (hdf : d.params.defaults = []) (hr : Room k callerA)
    (F : ∀ (w : World) (mg : Str → Option Value) (fa : Addr) (h : Heap), YP w h → h.Ns mainGlobals mg → mg d.name = some (.ref fa) →
      ∃ (K : PySem.W.Frag) (fd : FuncData) (sp : Sp), K.In h ∧ (∀ (s : Shared) (u : Value), BindsTo s fd ⟨[u], []⟩ [(x, u)]) ∧
        (∀ (H : Hp) (a : Addr) (ns : List Int), ns.length ≤ n → Only H → SqL K H a (ns.map V.int) → sp [.ref a] H (fun v _ => v = .bl true) fun _ _ _ => False) ∧
        ∀ base : Heap, K.In base → base.Ns mainGlobals mg → FnG l.prog w K mg base CX k fa fd [x] sp)
    (hCX : ∀ (H : Hp) (s : Shared) (e : Value) (s' : Shared), CX [] H s (fun _ _ _ => False) e s' → False) :
    PySem.W.WalkO q loose XP YP l.row.toRowW d [] (fun f vs => PySem.call f vs) := by
  refine Att.attach_call hn hdf ?_
  intro w s0 s1 mg mb fa o pm cd doc a us zs G Y _ _ _ hmg hobj hints hlen hg
  obtain ⟨K, fd, sp, inK, hb, hsp, hF⟩ := F w mg fa _ Y G.T.g hmg
  exact law_callG inK G.T.g G.T.b G.T.builtins G.T.nolimit hg hobj hints (Nat.le_trans hlen hn2) hr hF hb (fun H o1 sq => hsp H a zs hlen o1 sq) fun H e s2 => hCX H s1 e s2
end Wp
set_option Elab.async false
set_option linter.all false
set_option maxRecDepth 100000
set_option maxHeartbeats 4000000
/-! The rules whose reading names the written part, with the written part as a letter of its own (so that readings within comprehensions and outside are the same). -/
namespace Wp
open PySem PySem.Spec PyProof.Rows L2
section
variable {X : Cx} {K : PySem.W.Frag}
theorem ix_listK (h : X.K = K) : IxR X (rIxL K) := by subst h; exact ix_list
theorem ix_tupK (h : X.K = K) : IxR X (rIxT K) := by subst h; exact ix_tup
theorem ix_seqK (h : X.K = K) : IxR X (rIx K) := by subst h; exact ix_seq
theorem sl_listK (h : X.K = K) : SlR X (rSlL K) := by subst h; exact sl_list
theorem sl_tupK (h : X.K = K) : SlR X (rSlT K) := by subst h; exact sl_tup
theorem c_lenK (h : X.K = K) : CallR X (.builtin "len") (rLen K) := by subst h; exact c_len
theorem c_listK (h : X.K = K) : CallR X (.type "list") (rListOf K) := by subst h; exact c_list
theorem c_isiK (h : X.K = K) : CallR X (.builtin "isinstance") (rIsi K) := by subst h; exact call_isi
theorem c_isiTK (h : X.K = K) : CallR X (.builtin "isinstance") (rIsiT K) := by subst h; exact call_isiT
theorem c_sumK (h : X.K = K) (c : X.calm = true) : CallR X (.builtin "sum") (rSum K) := by subst h; exact cr_sum c
theorem c_allK (h : X.K = K) (c : X.calm = true) : CallR X (.builtin "all") (rAll K) := by subst h; exact cr_all c
theorem c_anyK (h : X.K = K) (c : X.calm = true) : CallR X (.builtin "any") (rAny K) := by subst h; exact cr_any c
theorem c_minK (h : X.K = K) (c : X.calm = true) : CallR X (.builtin "min") (rMin K) := by subst h; exact cr_min c
theorem c_maxK (h : X.K = K) (c : X.calm = true) : CallR X (.builtin "max") (rMax K) := by subst h; exact cr_max c
theorem c_sortedK (h : X.K = K) : CallR X (.builtin "sorted") (rSorted K) := by subst h; exact cr_sorted
theorem c_sortedSK (h : X.K = K) : CallR X (.builtin "sorted") (rSortedS K) := by subst h; exact cr_sortedS
theorem c_reprK {k : Nat} (h : X.K = K) (hG : X.A.guards = some []) (hr : Room k X.A) : CallR X (.builtin "repr") (rRepr K) := by subst h; exact call_reprD hG hr
def rTupOf (K : PySem.W.Frag) : List V → Hp → VK → Prop := fun xs H Q => ∃ p ys, xs = [.ref p] ∧ ((SqL K H p ys ∧ ∀ l, H l = none → Q (.ref l) (upd H l (.tup ys))) ∨ (SqT K H p ys ∧ Q (.ref p) H))
theorem c_tupleK (h : X.K = K) : CallR X (.type "tuple") (rTupOf K) := by subst h; exact call_tuple_of
theorem in_seqK (h : X.K = K) : OpR X (compareOp .In) (rIn K false) := by subst h; exact op_in_seq
theorem notIn_seqK (h : X.K = K) : OpR X (compareOp .NotIn) (rIn K true) := by subst h; exact op_notIn_seq
theorem eqDK (h : X.K = K) (hu : X.A.units + 64 < cLine) : OpR X (compareOp .Eq) (rEqD K) := by subst h; exact op_eqD hu
theorem neDK (h : X.K = K) (hu : X.A.units + 64 < cLine) : OpR X (compareOp .NotEq) (rNeD K) := by subst h; exact op_neD hu
theorem pe_fldK {e : Expr} {f : Str} {pos : Pos} {ta : TE} (h : X.K = K) (he : PE X e ta) (hb : attributeBase e f X.env (eval e X.env) = eval e X.env := by rfl) : PE X (.Attribute e f pos) (tFld K ta f) := by
  subst h
  exact pe_fld he hb
theorem ps_fldK {o value : Expr} {f : Str} {pos pos' : Pos} {ta tv : TE} (h : X.K = K) (ha : PE X o ta) (hv : PE X value tv) (hs : swapsWith value (some (.Attribute o f pos')) pos.line X.env = pure false := by rfl) : PS X (.Assign [.Attribute o f pos'] value pos) (sFld K ta tv f) := by
  subst h
  exact ps_fld ha hv hs
theorem pg_tupK {es : List Expr} {k : Nat} {t : TGs} {n : Nat} {pos : Pos} (h : X.K = K) (hc : X.calm = true) (hh : PGs X es t)
    (hn : (assignEach es X.env).length = n := by rfl) (hst : (assignEach es X.env).findIdx? (·.1) = none := by rfl) : PG X (.Tuple es k pos) (gTup K n t) := by
  subst h
  exact pg_tup hc hh hn hst
theorem pi_listK {l tg : Expr} {tl : TE} (h : X.K = K) (hl : PE X l tl) : PI X tg l (iList K tl) := by
  subst h
  exact pi_list hl
theorem pi_tupK {l tg : Expr} {tl : TE} (h : X.K = K) (hl : PE X l tl) : PI X tg l (iTup K tl) := by
  subst h
  exact pi_tup hl
theorem pe_bmK {T : String} {name : Str} {id : String} {r : V → List V → Hp → VK → Prop} {o e : Expr} {es : List Expr} {to : TE} {t : TA} {apos cpos : Pos} (h : X.K = K) (pa : PlainAttrs T) (slot : Slot T name id) (hty : typeOf (.builtin id) = pure (.type "method_descriptor")) (hm : MtR X id r) (ho : PE X o to) (ha : PA X (e :: es) t)
    (hbase : attributeBase o name X.env (eval o X.env) = eval o X.env := by rfl)
    (hfew : ((backTo cpos (starEach (e :: es) X.env)).all (fun x => !x.1) && (backToKw cpos (keywordEach [] X.env)).all (fun x => x.1.isSome) && decide ((e :: es).length + ([] : List Keyword).length + (if ([] : List Keyword).isEmpty then 0 else 1) < 30)) = true := by rfl)
    (hline : (apos.endLine == cpos.line) = true := by rfl) (he : starEach (e :: es) X.env = (false, eval e X.env) :: starEach es X.env := by rfl) (hpl : (backTo cpos (starEach es X.env)).any (·.1) = false := by rfl) :
    PE X (.Call (.Attribute o name apos) (e :: es) [] cpos) (tBM K T r to t) := by
  subst h
  exact pe_bm pa slot hty hm ho ha hbase hfew hline he hpl
end
end Wp
set_option Elab.async false
set_option linter.all false
set_option maxRecDepth 100000
set_option maxHeartbeats 4000000
/-! Calls by keywords alone; classes called; isinstance. -/
namespace Wp
open PySem PySem.Spec PyProof.Rows L2
def swap2 {α : Type} : List α → List α
  | [a, b] => [b, a]
  | l => l
def rev3 {α : Type} : List α → List α
  | [a, b, c] => [c, b, a]
  | l => l
theorem swap2_rel {vs : List V} {us : List Value} (r : Vals vs us) : Vals (swap2 vs) (swap2 us) := by
  match vs, us, r with
  | [], _, .nil => exact .nil
  | [_], _, .cons a .nil => exact .cons a .nil
  | [_, _], _, .cons a (.cons b .nil) => exact .cons b (.cons a .nil)
  | _ :: _ :: _ :: _, _, .cons a (.cons b (.cons c d)) => exact .cons a (.cons b (.cons c d))
theorem rev3_rel {vs : List V} {us : List Value} (r : Vals vs us) : Vals (rev3 vs) (rev3 us) := by
  match vs, us, r with
  | [], _, .nil => exact .nil
  | [_], _, .cons a .nil => exact .cons a .nil
  | [_, _], _, .cons a (.cons b .nil) => exact .cons a (.cons b .nil)
  | [_, _, _], _, .cons a (.cons b (.cons c .nil)) => exact .cons c (.cons b (.cons a .nil))
  | _ :: _ :: _ :: _ :: _, _, .cons a (.cons b (.cons c (.cons d e))) => exact .cons a (.cons b (.cons c (.cons d e)))
/-- a def called by keywords ks alone; g puts their values in the parameters' order -/
structure Dq (P : Program) (w : World) (K : PySem.W.Frag) (mg : Str → Option Value) (base : Heap)
    (CX : CXT) (k : Nat) (x : Str) (ks : List Str) (g : List V → List V) (sp : Sp) : Prop where
  ex : ∃ (fd : FuncData) (ps : List Str) (gv : List Value → List Value), FnOk P w K mg base CX k (He.ga K x) fd ps sp ∧ KBn K fd ps 0 ks (fun _ ws => gv ws) (fun _ zs => g zs)
  gm : mg x = some (.ref (He.ga K x))
  kp : PySem.W.keepIn K (.ref (He.ga K x)) = true
def kFnK (n : Nat) (g : List V → List V) (sp : Sp) (E : XK) (Q : VK) : List V → Hp → Prop := fun zs H1 => zs.length = n ∧ sp (g zs) H1 Q E
def tFnK (n : Nat) (g : List V → List V) (sp : Sp) (E : XK) (tk : TA) : TE := fun σ H Q => tk σ H (kFnK n g sp E Q)
section
variable {X : Cx}
theorem pe_fnK0 {CX : CXT} {k : Nat} {x : Str} {ks : List Str} {g : List V → List V} {sp : Sp} {E : XK} {kws : List Keyword} {tk : TA} {p pos : Pos}
    (D : Dq X.prog X.w X.K X.mg X.base CX k x ks g sp) (hr : Room k X.A) (hx : Passes CX X E) (hkw : PK X kws tk) (hg : Gl X x := by rfl)
    (hall : (backToKw pos (keywordEach kws X.env)).all (·.1.isSome) = true := by rfl) (hks : (backToKw pos (keywordEach kws X.env)).filterMap (·.1) = ks := by rfl)
    (hdb : (x == ("__debug__" : Str)) = false := by decide)
    (hpl : ((backTo pos (starEach [] X.env)).any (·.1) || (backToKw pos (keywordEach kws X.env)).any (·.1.isNone)) = false := by rfl) :
    PE X (.Call (.Name x p) [] kws pos) (tFnK ks.length g sp E tk) := by
  obtain ⟨fd, ps, gv, F, b⟩ := D.ex
  refine ⟨fun pins s σ H Q I h => wpAny_Call_Name_kw (ld_glob I hg D.gm ?_ hdb)⟩
  refine PySem.W.callWith_KW0 (h₀ := X.base) I.ok.mod.kin D.kp hall (thn (hkw.run pos pins s σ H _ I h) ?_) hpl
  rintro ws s2 ⟨zs, H2, I2, rz, l2, q2⟩
  refine ⟨I2.kIn, ?_⟩
  rw [hks]
  exact run_fnN (us := []) (vs := []) F hr b hx I2 .nil rz rfl l2 q2
theorem r_fnK {n : Nat} {g : List V → List V} {sp : Sp} {E : XK} {tk : TA} {σ : L2.St} {H : Hp} {Q : VK} (q : tk σ H (kFnK n g sp E Q)) : tFnK n g sp E tk σ H Q := q
theorem r_kFnK {n : Nat} {g : List V → List V} {sp : Sp} {E : XK} {H : Hp} {Q : VK} {zs : List V} (l : zs.length = n) (q : sp (g zs) H Q E) : kFnK n g sp E Q zs H := ⟨l, q⟩
end
section
variable {P : Program} {w : World} {K : PySem.W.Frag} {mg : Str → Option Value} {base : Heap} {x qual : Str} {params : Arguments} {body : List Stmt} {scope : Scope} {dvs : List V} {kws : List (Str × V)} {f : Addr} {fd : FuncData}
/-- how keywords alone bind (a def without defaults) -/
theorem kbn_of {ps ks : List Str} {gv : List Value → List Value} {g : List V → List V} (F : FunD K x qual params body scope [] kws f fd)
    (hrel : ∀ {vs : List V} {us : List Value}, Vals vs us → Vals (g vs) (gv us))
    (h : ∀ (kV doc pm : Value) (an : Option Addr) (cdv ct : Value) (ws : List Value), ws.length = ks.length → bindArgs (PySem.W.fnOf x qual params body scope .none kV doc pm an cdv ct) ⟨[], ks.zip ws⟩ = pure (ps.zip (gv ws))) :
    KBn K fd ps 0 ks (fun _ ws => gv ws) (fun _ zs => g zs) := by
  obtain ⟨oc, od, dV, kV, doc, pm, an, cdv, ct, osl, rfl, lk, hcd, hD, hK⟩ := F.ex
  rcases hD with ⟨_, rfl⟩ | ⟨e, _⟩
  · refine ⟨fun s us ws _ l1 l2 => ?_, fun _ r => hrel r⟩
    obtain rfl : us = [] := List.length_eq_zero_iff.mp l1
    exact .of_eq (h kV doc pm an cdv ct ws l2)
  · exact absurd rfl e
end
/-! ### classes called -/
/-- what a new instance of the class at C is given to: its __init__ with the promise sp -/
def spMk (C : Addr) (sp : Sp) (dvs : List V) : Sp := fun vs H Q E => ∀ x dx, H x = none → H dx = none → dx ≠ x →
  sp (.ref x :: (vs ++ dvs)) (upd (upd H dx (.own x)) x (.ins C dx [])) (fun v H2 => v = .non ∧ Q (.ref x) H2) E
structure Dc (P : Program) (w : World) (K : PySem.W.Frag) (mg : Str → Option Value) (base : Heap)
    (CX : CXT) (k : Nat) (x : Str) (sp : Sp) : Prop where
  ex : ∃ fI fd ps spI dvs ds, Mk K (He.ga K x) fI ∧ FnOk P w K mg base CX k fI fd ps spI ∧ Binds K fd ps ds ∧ Vals dvs ds ∧ ∀ vs H Q E, sp vs H Q E → spMk (He.ga K x) spI dvs vs H Q E
  gm : mg x = some (.ref (He.ga K x))
section
variable {X : Cx}
theorem pe_mk {CX : CXT} {k : Nat} {x : Str} {sp : Sp} {E : XK} {e : Expr} {es : List Expr} {t : TA} {p pos : Pos}
    (D : Dc X.prog X.w X.K X.mg X.base CX k x sp) (hr : Room (k + 1) X.A) (hx : Passes CX X E) (ha : PA X (e :: es) t) (hg : Gl X x := by rfl)
    (hdb : (x == ("__debug__" : Str)) = false := by decide)
    (he : starEach (e :: es) X.env = (false, eval e X.env) :: starEach es X.env := by rfl)
    (hpl : (backTo pos (starEach es X.env)).any (·.1) = false := by rfl) :
    PE X (.Call (.Name x p) (e :: es) [] pos) (tFn sp E t) := by
  obtain ⟨fI, fd, ps, spI, dvs, ds, M, F, b, hd, imp⟩ := D.ex
  refine ⟨fun pins s σ H Q I h => wpAny_Call_Name_kw (ld_glob I hg D.gm ?_ hdb)⟩
  refine PySem.W.callWith_K (h₀ := X.base) I.ok.mod.kin M.kp (thn (ha.run pos pins s σ H _ I h) ?_) he hpl
  rintro us s1 ⟨vs, H1, I1, r, q⟩
  exact ⟨I1.kIn, run_make M F hr b hd hx I1 r (imp vs H1 Q E q)⟩
end
/-! ### isinstance of plain values -/
section
variable {K : PySem.W.Frag} {H : Hp} {Q : VK} {x : V} {i : Int} {b : Bool} {z : Str} {p : Addr} {xs : List V}
theorem r_isiT {a c : String} {r : Bool} (h : TyX K H x (.type a)) (hk : kitB a c = some r) (q : Q (.bl r) H) : rIsi K [x, .ty c] H Q := ⟨x, .ty c, .type a, .type c, r, rfl, .ty c, h, kit_ty hk, q⟩
theorem r_isi_ii (q : Q (.bl true) H) : rIsi K [.int i, .ty "int"] H Q := r_isiT (.base (.int i)) (by decide +kernel) q
theorem r_isi_ib (q : Q (.bl false) H) : rIsi K [.int i, .ty "bool"] H Q := r_isiT (.base (.int i)) (by decide +kernel) q
theorem r_isi_is (q : Q (.bl false) H) : rIsi K [.int i, .ty "str"] H Q := r_isiT (.base (.int i)) (by decide +kernel) q
theorem r_isi_it (q : Q (.bl false) H) : rIsi K [.int i, .ty "tuple"] H Q := r_isiT (.base (.int i)) (by decide +kernel) q
theorem r_isi_bi (q : Q (.bl true) H) : rIsi K [.bl b, .ty "int"] H Q := r_isiT (.base (.bl b)) (by decide +kernel) q
theorem r_isi_bb (q : Q (.bl true) H) : rIsi K [.bl b, .ty "bool"] H Q := r_isiT (.base (.bl b)) (by decide +kernel) q
theorem r_isi_ss (q : Q (.bl true) H) : rIsi K [.str z, .ty "str"] H Q := r_isiT (.base (.str z)) (by decide +kernel) q
theorem r_isi_tt (h : H p = some (.tup xs)) (q : Q (.bl true) H) : rIsi K [.ref p, .ty "tuple"] H Q := r_isiT (.base (.tup h)) (by decide +kernel) q
/-- is it a number -/
inductive NumV (K : PySem.W.Frag) (H : Hp) : V → Option Int → Prop
  | int (i : Int) : NumV K H (.int i) (some i)
  | no {x : V} {t : Value} {b1 b2 : Bool} : TyX K H x t → PySem.W.kitOne K t (.type "int") = some b1 → PySem.W.kitOne K t (.type "bool") = some b2 → (b1 && !b2) = false → NumV K H x none
def inB : Option Int → Int → Int → Bool
  | some i, lo, hi => decide (lo ≤ i) && decide (i ≤ hi)
  | none, _, _ => false
theorem inB_yes {i lo hi : Int} (h : lo ≤ i ∧ i ≤ hi) : inB (some i) lo hi = true := by
  simp [inB, h.1, h.2]
end
end Wp
set_option Elab.async false
set_option linter.all false
set_option maxRecDepth 100000
set_option maxHeartbeats 4000000
namespace Wp
open PySem PySem.Spec PyProof.Rows L2
def topS (i : Nat) : Stmt := PySem.Challenge.pw_wholepaid_k22_known_pairs_of_books.main.body.getD i (.Pass ⟨0, 0, 0, 0⟩)
abbrev s__law_begun : Stmt := topS 47
abbrev s__law_mixed : Stmt := topS 48
abbrev s__law_take : Stmt := topS 49
abbrev s__law_pick : Stmt := topS 50

/-! ### the source of draws: a dict of four entries -/
def dkv (l c : Addr) (r t : Int) : List (Key × V) :=
  [(Sum.inr ("large" : Str), .ref l), (Sum.inr ("cells" : Str), .ref c), (Sum.inr ("rest" : Str), .int r), (Sum.inr ("turn" : Str), .int t)]
theorem k13 : ¬ (Sum.inr ("large" : Str) : Key) = Sum.inr ("cells" : Str) := by decide +kernel
theorem k12 : ¬ (Sum.inr ("large" : Str) : Key) = Sum.inr ("rest" : Str) := by decide +kernel
theorem k22 : ¬ (Sum.inr ("cells" : Str) : Key) = Sum.inr ("rest" : Str) := by decide +kernel
theorem k32 : ¬ (Sum.inr ("turn" : Str) : Key) = Sum.inr ("rest" : Str) := by decide +kernel
theorem k14 : ¬ (Sum.inr ("large" : Str) : Key) = Sum.inr ("turn" : Str) := by decide +kernel
theorem k24 : ¬ (Sum.inr ("cells" : Str) : Key) = Sum.inr ("turn" : Str) := by decide +kernel
theorem k34 : ¬ (Sum.inr ("rest" : Str) : Key) = Sum.inr ("turn" : Str) := by decide +kernel
section
variable {l c : Addr} {r t r' t' : Int}
theorem dkv_nd : ((dkv l c r t).map (·.1)).Nodup := (by decide +kernel : ([Sum.inr ("large" : Str), Sum.inr ("cells" : Str), Sum.inr ("rest" : Str), Sum.inr ("turn" : Str)] : List Key).Nodup)
theorem v_large : valV (dkv l c r t) (Sum.inr ("large" : Str)) = some (.ref l) := valV_pos rfl
theorem v_cells : valV (dkv l c r t) (Sum.inr ("cells" : Str)) = some (.ref c) := by
  unfold dkv
  rw [valV_neg k13, valV_pos rfl]
theorem v_rest : valV (dkv l c r t) (Sum.inr ("rest" : Str)) = some (.int r) := by
  unfold dkv
  rw [valV_neg k12, valV_neg k22, valV_pos rfl]
theorem v_turn : valV (dkv l c r t) (Sum.inr ("turn" : Str)) = some (.int t) := by
  unfold dkv
  rw [valV_neg k14, valV_neg k24, valV_neg k34, valV_pos rfl]
theorem p_rest : putK (dkv l c r t) (Sum.inr ("rest" : Str)) (.int r') = dkv l c r' t := by
  have a : ((dkv l c r t).any fun kv => decide (kv.1 = Sum.inr ("rest" : Str))) = true := by
    rw [valV_any, v_rest] <;> rfl
  unfold putK
  rw [if_pos a]
  simp only [dkv, List.map_cons, List.map_nil, if_neg k12, if_neg k22, if_neg k32, if_pos trivial]
theorem p_turn : putK (dkv l c r t) (Sum.inr ("turn" : Str)) (.int t') = dkv l c r t' := by
  have a : ((dkv l c r t).any fun kv => decide (kv.1 = Sum.inr ("turn" : Str))) = true := by
    rw [valV_any, v_turn] <;> rfl
  unfold putK
  rw [if_pos a]
  simp only [dkv, List.map_cons, List.map_nil, if_neg k14, if_neg k24, if_neg k34, if_pos trivial]
end

/-- the source of draws stands at st: its large cells at l, the script's copy at c -/
structure DS (st l c : Addr) (cs : List Int) (B : Int) (H : Hp) : Prop where
  d : ∃ r t, 0 ≤ r ∧ 0 ≤ t ∧ t ≤ B ∧ H st = some (.dK (dkv l c r t))
  lg : ∃ zs : List Int, (∀ z ∈ zs, 0 ≤ z) ∧ H l = some (.lst (zs.map V.int))
  cl : H c = some (.lst (cs.map V.int))
  n1 : c ≠ l
theorem DS.ne {st l c : Addr} {cs : List Int} {B : Int} {H : Hp} (D : DS st l c cs B H) : c ≠ st ∧ l ≠ st := by
  obtain ⟨r, t, _, _, _, h⟩ := D.d
  obtain ⟨zs, _, h2⟩ := D.lg
  exact ⟨ne_of D.cl h (by intro z; cases z), ne_of h2 h (by intro z; cases z)⟩
/-- all but the source of draws is as it was -/
def Kp (st l : Addr) (H H' : Hp) : Prop := ∀ b o, H b = some o → b ≠ st → b ≠ l → H' b = some o
theorem Kp.refl {st l : Addr} {H : Hp} : Kp st l H H := fun _ _ h _ _ => h
theorem Kp.trans {st l : Addr} {H H1 H2 : Hp} (a : Kp st l H H1) (b : Kp st l H1 H2) : Kp st l H H2 :=
  fun x o h n1 n2 => b x o (a x o h n1 n2) n1 n2
theorem Kp.of {st l : Addr} {H H' : Hp} (a : Same H H') : Kp st l H H' := fun x o h _ _ => a x o h
theorem DS.keep {st l c : Addr} {cs : List Int} {B : Int} {H H' : Hp} (D : DS st l c cs B H) (e : Same H H') : DS st l c cs B H' := by
  obtain ⟨⟨r, t, hr, h0, h1, h⟩, ⟨zs, hz, h2⟩, h3, n⟩ := D
  exact ⟨⟨r, t, hr, h0, h1, e _ _ h⟩, ⟨zs, hz, e _ _ h2⟩, e _ _ h3, n⟩
theorem DS.mono {st l c : Addr} {cs : List Int} {B B' : Int} {H : Hp} (D : DS st l c cs B H) (h : B ≤ B') : DS st l c cs B' H := by
  obtain ⟨⟨r, t, hr, h0, h1, h⟩, h2, h3, n⟩ := D
  exact ⟨⟨r, t, hr, h0, by omega, h⟩, h2, h3, n⟩

def sp_mixed : Sp := fun vs H Q _ => ∃ (st l c : Addr) (cs : List Int) (B : Int), vs = [.ref st] ∧ B ≤ 35184372088832 ∧ DS st l c cs B H ∧
  ∀ (k : Int) (H' : Hp), 0 ≤ k → DS st l c cs (B + 1) H' → Kp st l H H' → Q (.int k) H'
def sp_take : Sp := fun vs H Q _ => ∃ (st l c : Addr) (cs : List Int) (B n : Int), vs = [.ref st, .int n] ∧ 0 < n ∧ n < 1073741824 ∧ B ≤ 35184372088832 ∧ DS st l c cs B H ∧
  ∀ (k : Int) (H' : Hp), 0 ≤ k → k < n → DS st l c cs (B + 1) H' → Kp st l H H' → Q (.int k) H'
/-- pick: an item of a list -/
def sp_pick : Sp := fun vs H Q _ => ∃ (st l c p : Addr) (cs : List Int) (B : Int) (xs : List V), vs = [.ref st, .ref p] ∧ B ≤ 35184372088832 ∧ DS st l c cs B H ∧ H p = some (.lst xs) ∧ xs ≠ [] ∧ xs.length < 1000000 ∧ p ≠ l ∧
  ∀ (i : Nat) (x : V) (H' : Hp), xs[i]? = some x → DS st l c cs (B + 1) H' → Kp st l H H' → Q x H'
def sp_begun (K : PySem.W.Frag) : Sp := fun vs H Q _ => ∃ (a : Addr) (cs : List Int), vs = [.ref a] ∧ SqL K H a (cs.map V.int) ∧ cs.length ≤ 63 ∧
  ∀ (st l c : Addr) (H' : Hp), H st = none → H l = none → H c = none → Same H H' → DS st l c cs 0 H' → Q (.ref st) H'

structure Tx (K : PySem.W.Frag) (mg : Str → Option Value) : Prop where
  b_all : mg "all" = none
  b_bool : mg "bool" = none
  b_dict : mg "dict" = none
  b_int : mg "int" = none
  b_isinstance : mg "isinstance" = none
  b_len : mg "len" = none
  b_list : mg "list" = none
  b_max : mg "max" = none
  b_min : mg "min" = none
  b_range : mg "range" = none
  b_sorted : mg "sorted" = none
  b_str : mg "str" = none
  b_sum : mg "sum" = none
  b_super : mg "super" = none
  b_tuple : mg "tuple" = none
  b_zip : mg "zip" = none
  c_BUY : ∃ t, mg "BUY" = some (.str "buy" t)
  c_DAY : ∃ t, mg "DAY" = some (.str "day" t)
  c_LETTERS : ∃ t, mg "LETTERS" = some (.str "abcdefghijklmnopqrstuvwxyz" t)
  c_LONGEST : ∃ t, mg "LONGEST" = some (.int 31 t)
  c_MOST_DAY : ∃ t, mg "MOST_DAY" = some (.int 2000 t)
  c_MOST_KINDS : ∃ t, mg "MOST_KINDS" = some (.int 6 t)
  c_MOST_LENGTHS : ∃ t, mg "MOST_LENGTHS" = some (.int 4 t)
  c_MOST_MEMORY : ∃ t, mg "MOST_MEMORY" = some (.int 2 t)
  c_MOST_NAME : ∃ t, mg "MOST_NAME" = some (.int 8 t)
  c_MOST_RATE : ∃ t, mg "MOST_RATE" = some (.int 1000 t)
  g_PARTS : mg "PARTS" = some (.ref (He.ga K "PARTS"))
  t_PARTS : ∀ H : Hp, SqT K H (He.ga K "PARTS") [.str "lengths", .str "due", .str "kinds", .str "memory", .str "begins", .str "laid"]
  c_PAY : ∃ t, mg "PAY" = some (.str "pay" t)
  c_SHORTEST : ∃ t, mg "SHORTEST" = some (.int 2 t)
  c_STATEMENT : ∃ t, mg "STATEMENT" = some (.str "statement" t)
  g_CreditError : mg "CreditError" = some (.ref (He.ga K "CreditError"))
  g_BadBook : mg "BadBook" = some (.ref (He.ga K "BadBook"))
  g_BadPart : mg "BadPart" = some (.ref (He.ga K "BadPart"))
  g_BadNumber : mg "BadNumber" = some (.ref (He.ga K "BadNumber"))
  g_Unlike : mg "Unlike" = some (.ref (He.ga K "Unlike"))
  g_Book : mg "Book" = some (.ref (He.ga K "Book"))

local macro_rules | `(tactic| walk_at "val") => `(tactic| assumption)
local macro_rules | `(tactic| walk_at "rd1") => `(tactic| first
  | with_reducible refine r_seq ?_ | with_reducible refine r_next ?_ | with_reducible refine r_if ?_ | with_reducible refine r_asg ?_ | with_reducible refine r_gname ?_
  | with_reducible refine r_ret ?_ | with_reducible refine r_retN ?_ | with_reducible refine r_drop ?_ | with_reducible refine r_par ?_ | with_reducible refine r_kPar ?_
  | ((with_reducible refine' r_var ?hv ?_); (case hv => exact rfl)) | with_reducible refine r_c ?_ | with_reducible refine r_nil ?_ | with_reducible refine r_cons ?_
  | with_reducible refine r_fn ?_ | with_reducible refine r_cb ?_ | with_reducible refine r_op ?_ | with_reducible refine r_un ?_ | with_reducible refine r_I0 ?_
  | with_reducible refine r_pow5 ?_ | with_reducible refine r_pow6 ?_ | with_reducible refine r_pow7 ?_ | with_reducible refine r_pow9 ?_ | with_reducible refine r_pow18 ?_ | with_reducible refine r_pow20 ?_ | with_reducible refine r_pow30 ?_
  | with_reducible refine r_isN_non ?_ | with_reducible refine r_isN_ref ?_ | with_reducible refine r_isN_int ?_ | with_reducible refine r_isN_str ?_ | with_reducible refine r_isN_bl ?_ | with_reducible refine r_notN_non ?_ | with_reducible refine r_notN_ref ?_ | with_reducible refine r_notN_int ?_ | with_reducible refine r_notN_str ?_ | with_reducible refine r_notN_bl ?_
  | ((with_reducible refine r_I ?hc ?_); (case hc => walk_at "side")) | with_reducible refine r_U ?_
  | with_reducible refine r_eqI ?_ | with_reducible refine r_neI ?_ | with_reducible refine r_eqS ?_ | with_reducible refine r_neS ?_ | with_reducible refine r_eqB ?_ | with_reducible refine r_neB ?_
  | with_reducible refine r_chain ?_ | with_reducible refine r_test ?_ | with_reducible refine r_tB ?_ | with_reducible refine r_kTest ?_ | with_reducible refine r_not ?_
  | with_reducible refine r_and ?_ | with_reducible refine r_or ?_ | with_reducible refine r_tif ?_ | with_reducible refine r_andV ?_ | with_reducible refine r_orV ?_ | with_reducible refine r_notV ?_
  | with_reducible refine r_kAndV ?_ | with_reducible refine r_kOrV ?_ | with_reducible refine r_kNotV ?_
  | with_reducible refine w_T ?_ | with_reducible refine w_F ?_ | with_reducible refine w_NT ?_ | with_reducible refine w_NF ?_
  | with_reducible refine r_tup ?_ | with_reducible refine r_lst ?_ | with_reducible refine r_fld ?_ | with_reducible refine r_prop ?_ | ((with_reducible refine' r_aug ?h1 ?_); (case h1 => exact rfl)) | with_reducible refine r_ipI ?_ | with_reducible refine r_dget ?_ | with_reducible refine r_dput ?_ | with_reducible refine r_bm ?_
  | ((with_reducible refine' r_kDGetS ?h1 ?h2 ?_); (case h1 => assumption); (case h2 => walk_at "val"))
  | ((with_reducible refine' r_kBML ?h1 ?_); (case h1 => assumption))
  | with_reducible refine r_forL ?_ | with_reducible refine r_forR1 ?_ | with_reducible refine r_forR2 ?_ | with_reducible refine r_forT ?_ | with_reducible refine r_lcL ?_ | with_reducible refine r_lcR1 ?_
  | ((with_reducible refine r_kLcG ?hw ?_); (case hw => exact rfl)) | with_reducible refine r_kLcT ?_ | with_reducible refine r_yes ?_
  | with_reducible refine r_pnil ?_ | with_reducible refine r_pcons ?_
  | with_reducible refine r_fnK ?_ | ((with_reducible refine r_kFnK ?hl ?_); (case hl => exact rfl))
  | with_reducible refine r_isi_ii ?_ | with_reducible refine r_isi_ib ?_ | with_reducible refine r_isi_bi ?_ | with_reducible refine r_isi_bb ?_ | with_reducible refine r_isi_ss ?_ | with_reducible refine r_isi_is ?_ | with_reducible refine r_isi_it ?_
  | ((with_reducible refine' r_isi_tt ?h1 ?_); (case h1 => assumption))
  | with_reducible refine r_sfld ?_ | with_reducible refine r_gnil ?_ | with_reducible refine r_gcons ?_
  | ((with_reducible refine' r_gtup ?h1 ?h2 ?_); (case h1 => exact SqT.of (by assumption)); (case h2 => exact rfl))
  | with_reducible refine r_sl ?_ | with_reducible refine r_noPart ?_ | with_reducible refine r_part ?_ | with_reducible refine r_kPart ?_ | with_reducible refine r_m1 ?_ | with_reducible refine r_kM1 ?_ | with_reducible refine r_forS ?_ | with_reducible refine r_lcS ?_ | with_reducible refine r_lcTu ?_ | with_reducible refine r_lcK ?_ | with_reducible refine r_dcL ?_ | with_reducible refine r_lenD ?_
  | ((with_reducible refine r_kDcG ?hw ?_); (case hw => exact rfl)) | with_reducible refine r_kDcT ?_
  | with_reducible refine r_meth ?_ | with_reducible refine r_dz ?_ | with_reducible refine r_revL ?_ | with_reducible refine r_star ?_ | with_reducible refine r_int1 ?_ | with_reducible refine r_int1b ?_ | with_reducible refine r_min2 ?_ | with_reducible refine r_max2 ?_)
local macro_rules | `(tactic| walk_at "rd") => `(tactic| repeat walk_at "rd1")
local macro_rules | `(tactic| walk_at "side") => `(tactic| first | assumption | exact Or.inr ⟨by decide, by decide⟩ | exact Or.inl ⟨by decide, by decide⟩ | (constructor <;> omega) | omega | decide | (refine Or.inl ⟨?_, ?_⟩ <;> omega) | (refine Or.inr ⟨?_, ?_⟩ <;> omega) | (refine ⟨?_, ?_, ?_⟩ <;> first | decide | omega))
local macro_rules | `(tactic| walk_at "val") => `(tactic| first | exact v_rest | exact v_turn | exact v_large | exact v_cells)
section
variable {P : Program} {w : World} {K : PySem.W.Frag} {mg : Str → Option Value} {base : Heap}
theorem primes_mem {x : V} (h : x ∈ [V.int 2147483629, V.int 2147483587, V.int 2147483579, V.int 2147483563, V.int 2147483549, V.int 2147483543]) : ∃ q : Int, x = .int q ∧ 2000000000 < q ∧ q < 2147483648 := by
  simp only [List.mem_cons, List.not_mem_nil, or_false] at h
  rcases h with h | h | h | h | h | h <;> exact ⟨_, h, by decide, by decide⟩
theorem ints_get {xs : List Int} {i : Nat} {x : V} (h : (xs.map V.int)[i]? = some x) : ∃ z, x = .int z ∧ xs[i]? = some z := by
  rw [List.getElem?_map] at h
  cases e : xs[i]? with
  | none => rw [e] at h; cases h
  | some z => rw [e] at h; exact ⟨z, (Option.some.inj h).symm, rfl⟩
theorem ok__law_mixed {f : Addr} {fd : FuncData} (T : Tx K mg) (F : FnP K "_law_mixed" s__law_mixed f fd) :
    FnOk P w K mg base CX0 1 f fd ["_law_state"] sp_mixed := by
  have sc : FnScope ["_law_state", "_law_found", "_law_prime", "_law_blend", "_law_cell"] ["_law_state"] (defScope s__law_mixed) := ⟨rfl, rfl, rfl, by decide +kernel, rfl, by decide +kernel, by decide +kernel⟩
  refine F.ok sc (by rintro vs H Q E ⟨_, _, _, _, _, rfl, _⟩; rfl) (fun cdv A outer s H vs Q E hr h => ⟨_, PSs.nox ((pss_cons (ps_dput (hu_of hr) (pv 0) pe_str (pe_op op_add (pe_dget (hu_of hr) (pv 0) pe_str (fun _ _ => rfl)) pe_int) rfl)
      (pss_cons (ps_set (i := 1) sc.nd rfl (by first | exact Or.inl rfl | exact Or.inr rfl) pe_int)
      (pss_cons (ps_for PassesOwn.never rfl (pi_listK (K := K) rfl (pe_lst (pa_cons pe_int (pa_cons pe_int (pa_cons pe_int (pa_cons pe_int (pa_cons pe_int (pa_cons pe_int pa_nil)))))))) (pg_name (i := 2) sc.nd rfl (by first | exact Or.inl rfl | exact Or.inr rfl)) (pss_cons (ps_set (i := 3) sc.nd rfl (by first | exact Or.inl rfl | exact Or.inr rfl) (pe_op op_add (pe_op op_mul pe_int (pe_dget (hu_of hr) (pv 0) pe_str (fun _ _ => rfl))) (pe_op op_fdiv (pv 2) pe_int)))
      (pss_cons (ps_for PassesOwn.never rfl (pi_listK (K := K) rfl (pe_dget (hu_of hr) (pv 0) pe_str (fun _ _ => rfl))) (pg_name (i := 4) sc.nd rfl (by first | exact Or.inl rfl | exact Or.inr rfl)) (pss_one (ps_set (i := 3) sc.nd rfl (by first | exact Or.inl rfl | exact Or.inr rfl) (pe_op op_mod (pe_callTy c_int1 (by rfl) T.b_int (by decide +kernel) (pa_cons (pe_op op_add (pe_op op_mul (pv 3) pe_int) (pv 4)) pa_nil)) (pv 2)))))
      (pss_one (ps_set (i := 1) sc.nd rfl (by first | exact Or.inl rfl | exact Or.inr rfl) (pe_op op_add (pe_op op_mul (pv 1) pe_int) (pe_op op_mod (pe_callTy c_int1 (by rfl) T.b_int (by decide +kernel) (pa_cons (pe_op op_pow (pv 3) pe_int) pa_nil)) (pv 2))))))))
      (pss_one (ps_ret (pv 1))))))), ?_⟩)
  obtain ⟨st, l, c, cs, B, rfl, hB, D, k⟩ := h
  obtain ⟨⟨r, t, hr0, ht0, htB, hd⟩, ⟨zs, hz, hl⟩, hc, n1⟩ := id D
  obtain ⟨n2, n3⟩ := D.ne
  walk_at "rd"
  refine r_kDPutS hd (show 4 < 1000000 by decide) fun H1 b1 hd1 => ?_
  rw [p_turn] at hd1
  have hc1 := b1 _ _ hc n2
  walk_at "rd"
  refine r_kLst fun p H2 np e2 hp => ?_
  replace hd1 := e2 _ _ hd1
  replace hc1 := e2 _ _ hc1
  refine r_kForL (xs := [V.int 2147483629, V.int 2147483587, V.int 2147483579, V.int 2147483563, V.int 2147483549, V.int 2147483543])
    (fun _ σ' H' => H2 = H' ∧ ∃ (z : Int) (x y u : Option V), σ' = [some (.ref st), some (.int z), x, y, u] ∧ 0 ≤ z) (SqL.of hp) ⟨rfl, _, _, _, _, rfl, Int.le_refl 0⟩ (fun _ σ' H' ⟨e, _⟩ => by rw [← e]; exact SqL.of hp) ?_ ?_
  · rintro i x σ' H' hx ⟨rfl, z, x2, x3, x4, rfl, hz0⟩
    obtain ⟨q, rfl, hq1, hq2⟩ := primes_mem (List.mem_of_getElem? hx)
    walk_at "rd"
    refine r_kForL (xs := cs.map V.int) (fun _ σ' H' => H2 = H' ∧ ∃ (y : Int) (u : Option V), σ' = [some (.ref st), some (.int z), some (.int q), some (.int y), u] ∧ -18446744073709551616 < y ∧ y < 18446744073709551616)
      (SqL.of hc1) ⟨rfl, _, _, rfl, by omega, by omega⟩ (fun _ σ' H' ⟨e, _⟩ => by rw [← e]; exact SqL.of hc1) ?_ ?_
    · rintro j x σ' H' hx ⟨rfl, y, u, rfl, hy1, hy2⟩
      obtain ⟨z', rfl, _⟩ := ints_get hx
      walk_at "rd"
      have h1 := Int.emod_nonneg (y * 48271 + z') (b := q) (by omega)
      have h2 := Int.emod_lt_of_pos (y * 48271 + z') (b := q) (by omega)
      exact ⟨rfl, _, _, rfl, by omega, by omega⟩
    · rintro σ' H' ⟨rfl, y, u, rfl, hy1, hy2⟩
      walk_at "rd"
      have h1 := Int.emod_nonneg (y ^ (5 : Int).toNat) (b := q) (by omega)
      exact ⟨rfl, _, _, _, _, rfl, by omega⟩
  · rintro σ' H' ⟨rfl, z, x2, x3, x4, rfl, hz0⟩
    walk_at "rd"
    refine k z H2 hz0 ⟨⟨r, t + 1, hr0, by omega, by omega, hd1⟩, ⟨zs, hz, e2 _ _ (b1 _ _ hl n3)⟩, hc1, n1⟩ fun b o hb m1 m2 => e2 _ _ (b1 _ _ hb m1)
theorem ok__law_take {f : Addr} {fd : FuncData} (T : Tx K mg) (F : FnP K "_law_take" s__law_take f fd)
    (d__law_mixed : Dn P w K mg base CX0 1 "_law_mixed" ["_law_state"] sp_mixed) :
    FnOk P w K mg base CX0 2 f fd ["_law_state", "_law_size"] sp_take := by
  have sc : FnScope ["_law_state", "_law_size", "_law_found"] ["_law_state", "_law_size"] (defScope s__law_take) := ⟨rfl, rfl, rfl, by decide +kernel, rfl, by decide +kernel, by decide +kernel⟩
  refine F.ok sc (by rintro vs H Q E ⟨_, _, _, _, _, _, rfl, _⟩; rfl) (fun cdv A outer s H vs Q E hr h => ⟨_, PSs.nox ((Evl.pss_cut (ps_if (pt_cmpR op_eq (pe_dget (hu_of hr) (pv 0) pe_str (fun _ _ => rfl)) pe_int (nomark _)) (pss_one (ps_dput (hu_of hr) (pv 0) pe_str (pe_ifExp (pt_cmpR (neDK (K := K) rfl hr.units) (pe_dget (hu_of hr) (pv 0) pe_str (fun _ _ => rfl)) (pe_lst pa_nil) (nomark _)) (pe_bmK (K := K) rfl PySem.F.plainAttrs_list PySem.F.slot_list_pop PySem.F.type_list_pop mt_popAt (pe_dget (hu_of hr) (pv 0) pe_str (fun _ _ => rfl)) (pa_cons pe_int pa_nil)) (pe_fn d__law_mixed (hr.mono (by decide)) pass0 (pa_cons (pv 0) pa_nil))) rfl)) pss_nil)
      (pss_cons (ps_set (i := 2) sc.nd rfl (by first | exact Or.inl rfl | exact Or.inr rfl) (pe_op op_mod (pe_callTy c_int1 (by rfl) T.b_int (by decide +kernel) (pa_cons (pe_dget (hu_of hr) (pv 0) pe_str (fun _ _ => rfl)) pa_nil)) (pv 1)))
      (pss_cons (ps_dput (hu_of hr) (pv 0) pe_str (pe_op op_fdiv (pe_dget (hu_of hr) (pv 0) pe_str (fun _ _ => rfl)) (pv 1)) rfl)
      (pss_one (ps_ret (pv 2))))))), ?_⟩)
  obtain ⟨st, l, c, cs, B, n, rfl, hn, hn2, hB, D, k⟩ := h
  refine r_cut (fun σ' H' => σ' = [some (.ref st), some (.int n), none] ∧ DS st l c cs (B + 1) H' ∧ Kp st l H H') ?_ ?_
  · obtain ⟨⟨r, t, hr0, ht0, htB, hd⟩, ⟨zs, hz, hl⟩, hc, n1⟩ := id D
    obtain ⟨n2, n3⟩ := D.ne
    walk_at "rd"
    refine w_dec (fun h0 => ?_) (fun h0 => ?_)
    · walk_at "rd"
      refine r_kLst fun p H1 np e1 hp => ?_
      refine r_neLI (as := zs) (bs := []) (SqL.of (e1 _ _ hl)) (SqL.of hp) ?_
      walk_at "rd"
      replace hd := e1 _ _ hd
      replace hl := e1 _ _ hl
      replace hc := e1 _ _ hc
      refine w_ndec (fun hn => ?_) (fun hn => ?_)
      · cases zs with
        | nil => exact absurd rfl hn
        | cons z zs =>
          walk_at "rd"
          refine r_popAt0 hl fun H2 b2 hl2 => ?_
          walk_at "rd"
          have hd2 := b2 _ _ hd n3.symm
          refine r_kDPutS hd2 (show 4 < 1000000 by decide) fun H3 b3 hd3 => ?_
          rw [p_rest] at hd3
          refine ⟨rfl, ⟨⟨z, t, hz z (List.mem_cons_self ..), ht0, by omega, hd3⟩, ⟨zs, fun y hy => hz y (List.mem_cons_of_mem _ hy), b3 _ _ hl2 n3⟩, b3 _ _ (b2 _ _ hc n1) n2, n1⟩, fun b o hb m1 m2 => b3 _ _ (b2 _ _ (e1 _ _ hb) m2) m1⟩
      · walk_at "rd"
        refine ⟨st, l, c, cs, B, rfl, hB, D.keep e1, fun m H2 hm D2 k2 => ?_⟩
        obtain ⟨⟨r2, t2, hr2, ht2, htB2, hd2⟩, ⟨zs2, hz2, hl2⟩, hc2, _⟩ := id D2
        walk_at "rd"
        refine r_kDPutS hd2 (show 4 < 1000000 by decide) fun H3 b3 hd3 => ?_
        rw [p_rest] at hd3
        exact ⟨rfl, ⟨⟨m, t2, hm, ht2, htB2, hd3⟩, ⟨zs2, hz2, b3 _ _ hl2 n3⟩, b3 _ _ hc2 n2, n1⟩, fun b o hb m1 m2 => b3 _ _ (k2 _ _ (e1 _ _ hb) m1 m2) m1⟩
    · walk_at "rd"
      exact ⟨rfl, D.mono (by omega), Kp.refl⟩
  · rintro σ' H' ⟨rfl, D2, k2⟩
    obtain ⟨⟨r, t, hr0, ht0, htB, hd⟩, ⟨zs, hz, hl⟩, hc, n1⟩ := id D2
    obtain ⟨n2, n3⟩ := D2.ne
    walk_at "rd"
    refine r_kDPutS hd (show 4 < 1000000 by decide) fun H3 b3 hd3 => ?_
    rw [p_rest] at hd3
    walk_at "rd"
    refine k (r % n) H3 (Int.emod_nonneg _ (by omega)) (Int.emod_lt_of_pos _ hn) ⟨⟨_, t, Int.ediv_nonneg hr0 (Int.le_of_lt hn), ht0, htB, hd3⟩, ⟨zs, hz, b3 _ _ hl n3⟩, b3 _ _ hc n2, n1⟩ fun b o hb m1 m2 => b3 _ _ (k2 _ _ hb m1 m2) m1
theorem ok__law_pick {f : Addr} {fd : FuncData} (T : Tx K mg) (F : FnP K "_law_pick" s__law_pick f fd)
    (d__law_take : Dn P w K mg base CX0 2 "_law_take" ["_law_state", "_law_size"] sp_take) :
    FnOk P w K mg base CX0 3 f fd ["_law_state", "_law_some"] sp_pick := by
  have sc : FnScope ["_law_state", "_law_some"] ["_law_state", "_law_some"] (defScope s__law_pick) := ⟨rfl, rfl, rfl, by decide +kernel, rfl, by decide +kernel, by decide +kernel⟩
  refine F.ok sc (by rintro vs H Q E ⟨_, _, _, _, _, _, _, rfl, _⟩; rfl) (fun cdv A outer s H vs Q E hr h => ⟨_, PSs.nox ((pss_one (ps_ret (pe_ix (ix_listK (K := K) rfl) (pv 1) (pe_fn d__law_take (hr.mono (by decide)) pass0 (pa_cons (pv 0) (pa_cons (pe_callB (c_lenK (K := K) rfl) (by rfl) T.b_len (by decide +kernel) (pa_cons (pv 1) pa_nil)) pa_nil))) (fun _ _ => rfl))))), ?_⟩)
  obtain ⟨st, l, c, p, cs, B, xs, rfl, hB, D, hp, hne, hlen, npl, k⟩ := h
  have h0 : 0 < xs.length := List.length_pos_iff.mpr hne
  have npst : p ≠ st := by
    obtain ⟨r, t, _, _, _, h⟩ := D.d
    exact ne_of hp h (by intro z; cases z)
  walk_at "rd"
  refine r_lenL (SqL.of hp) ?_
  walk_at "rd"
  refine ⟨st, l, c, cs, B, _, rfl, by omega, by omega, hB, D, fun m H1 hm hm2 D1 k1 => ?_⟩
  have hi : m.toNat < xs.length := by omega
  refine r_ixL (SqL.of (k1 _ _ hp npst npl)) (at_get (n := m.toNat) (by omega) (List.getElem?_eq_getElem hi)) ?_
  exact k m.toNat _ H1 (List.getElem?_eq_getElem hi) D1 k1
theorem ok__law_begun {f : Addr} {fd : FuncData} (T : Tx K mg) (F : FnP K "_law_begun" s__law_begun f fd) :
    FnOk P w K mg base CX0 1 f fd ["_law_script"] (sp_begun K) := by
  have sc : FnScope ["_law_script", "_law_large", "_law_cell"] ["_law_script"] (defScope s__law_begun) := ⟨rfl, rfl, rfl, by decide +kernel, rfl, by decide +kernel, by decide +kernel⟩
  refine F.ok sc (by rintro vs H Q E ⟨_, _, rfl, _⟩; rfl) (fun cdv A outer s H vs Q E hr h => ⟨_, PSs.nox ((pss_cons (ps_setLc (i := 1) (own := [("_law_cell", 2)]) (by rfl) sc.nd rfl rfl (sw_true rfl rfl rfl (by decide +kernel)) (pi_listK (K := K) rfl (pv 0)) (blkOk_by (own := [("_law_cell", 2)]) (N := ["_law_script", "_law_large", "_law_cell"]) (sc := defScope s__law_begun) (by decide +kernel)) (fun _ _ _ _ _ => (pg_name (i := 2) sc.nd rfl (by first | exact Or.inl rfl | exact Or.inr rfl))) (fun _ _ _ _ _ => (pts_one (pt_cmpR op_ge (pv 2) (pe_op op_pow pe_int pe_int) (nomark _)))) (fun _ _ _ _ _ => (pe_op op_sub (pv 2) (pe_op op_pow pe_int pe_int))))
      (pss_one (ps_ret (pe_disp (pps_cons pe_str (pv 1) (pps_cons pe_str (pe_callTy (c_listK (K := K) rfl) (by rfl) T.b_list (by decide +kernel) (pa_cons (pv 0) pa_nil)) (pps_cons pe_str pe_int (pps_cons pe_str pe_int pps_nil)))) (by rfl) (by rfl) (fun z => by cases z) (by decide)))))), ?_⟩)
  obtain ⟨a, cs, rfl, hS, hlen, k⟩ := h
  walk_at "rd"
  refine r_kLcL (xs := cs.map V.int) (fun Da i H' => Same H H' ∧ ∃ zs : List Int, (∀ z ∈ zs, 0 ≤ z) ∧ zs.length ≤ i ∧ H' Da = some (.lst (zs.map V.int))) hS (fun Da H' hD e h => ⟨e, [], (fun z hz => nomatch hz), Nat.le_refl _, h⟩)
    (fun Da i H' ⟨e, _⟩ => e.seq hS) ?_ ?_
  · rintro Da i x H' hD hx ⟨e, zs, hz, hl, hDa⟩
    obtain ⟨z, rfl, hz2⟩ := ints_get hx
    have hi : i < cs.length := (List.getElem?_eq_some_iff.mp hz2).1
    walk_at "rd"
    refine w_dec (fun h1 => ?_) (fun h1 => ?_)
    · walk_at "rd"
      refine r_kLcE hDa (by rw [List.length_map]; omega) fun H2 b2 h2 => ⟨Same.mut e b2 hD, zs ++ [z - 1000000000000000000], ?_, by rw [List.length_append]; show zs.length + 1 ≤ i + 1; omega, by rw [List.map_append]; exact h2⟩
      intro y hy
      rcases List.mem_append.mp hy with hy | hy
      · exact hz y hy
      · rw [List.mem_singleton.mp hy]
        omega
    · exact ⟨e, zs, hz, by omega, hDa⟩
  · rintro Da H1 hD ⟨e1, zs, hz, hl, hDa⟩
    walk_at "rd"
    refine r_disp fun p H2 np e2 hp => ?_
    walk_at "rd"
    refine r_listL (e2.seq (e1.seq hS)) fun q H3 nq e3 hq => ?_
    walk_at "rd"
    refine r_kDisp (dkv Da q 0 0) (e3 _ _ hp) rfl (show 4 ≤ 15 by decide) dkv_nd fun H4 b4 h4 => ?_
    have hDa3 := e3 _ _ (e2 _ _ hDa)
    have npq : q ≠ p := ne_of hq (e3 _ _ hp) (by intro z; cases z)
    have npD : Da ≠ p := ne_of hDa3 (e3 _ _ hp) (by intro z; cases z)
    have nqD : q ≠ Da := (ne_of_none (e2 _ _ hDa) nq).symm
    have s03 : Same H H3 := (e1.trans e2).trans e3
    have np0 : H p = none := e1.free np
    refine k p Da q H4 np0 hD ((e1.trans e2).free nq) (Same.mut s03 b4 np0) ⟨⟨0, 0, Int.le_refl _, Int.le_refl _, Int.le_refl _, h4⟩, ⟨zs, hz, b4 _ _ hDa3 npD⟩, b4 _ _ hq npq, nqD⟩
end
end Wp
set_option Elab.async false
set_option linter.all false
set_option maxRecDepth 100000
set_option maxHeartbeats 4000000
namespace Wp
open PySem PySem.Spec PyProof.Rows L2
abbrev s_is_number : Stmt := topS 20
abbrev s_is_number_in : Stmt := topS 21
local macro_rules | `(tactic| walk_at "val") => `(tactic| assumption)
local macro_rules | `(tactic| walk_at "rd1") => `(tactic| first
  | with_reducible refine r_seq ?_ | with_reducible refine r_next ?_ | with_reducible refine r_if ?_ | with_reducible refine r_asg ?_ | with_reducible refine r_gname ?_
  | with_reducible refine r_ret ?_ | with_reducible refine r_retN ?_ | with_reducible refine r_drop ?_ | with_reducible refine r_par ?_ | with_reducible refine r_kPar ?_
  | ((with_reducible refine' r_var ?hv ?_); (case hv => exact rfl)) | with_reducible refine r_c ?_ | with_reducible refine r_nil ?_ | with_reducible refine r_cons ?_
  | with_reducible refine r_fn ?_ | with_reducible refine r_cb ?_ | with_reducible refine r_op ?_ | with_reducible refine r_un ?_ | with_reducible refine r_I0 ?_
  | with_reducible refine r_pow5 ?_ | with_reducible refine r_pow6 ?_ | with_reducible refine r_pow7 ?_ | with_reducible refine r_pow9 ?_ | with_reducible refine r_pow18 ?_ | with_reducible refine r_pow20 ?_ | with_reducible refine r_pow30 ?_
  | with_reducible refine r_isN_non ?_ | with_reducible refine r_isN_ref ?_ | with_reducible refine r_isN_int ?_ | with_reducible refine r_isN_str ?_ | with_reducible refine r_isN_bl ?_ | with_reducible refine r_notN_non ?_ | with_reducible refine r_notN_ref ?_ | with_reducible refine r_notN_int ?_ | with_reducible refine r_notN_str ?_ | with_reducible refine r_notN_bl ?_
  | ((with_reducible refine r_I ?hc ?_); (case hc => walk_at "side")) | with_reducible refine r_U ?_
  | with_reducible refine r_eqI ?_ | with_reducible refine r_neI ?_ | with_reducible refine r_eqS ?_ | with_reducible refine r_neS ?_ | with_reducible refine r_eqB ?_ | with_reducible refine r_neB ?_
  | with_reducible refine r_chain ?_ | with_reducible refine r_test ?_ | with_reducible refine r_tB ?_ | with_reducible refine r_kTest ?_ | with_reducible refine r_not ?_
  | with_reducible refine r_and ?_ | with_reducible refine r_or ?_ | with_reducible refine r_tif ?_ | with_reducible refine r_andV ?_ | with_reducible refine r_orV ?_ | with_reducible refine r_notV ?_
  | with_reducible refine r_kAndV ?_ | with_reducible refine r_kOrV ?_ | with_reducible refine r_kNotV ?_
  | with_reducible refine w_T ?_ | with_reducible refine w_F ?_ | with_reducible refine w_NT ?_ | with_reducible refine w_NF ?_
  | with_reducible refine r_tup ?_ | with_reducible refine r_lst ?_ | with_reducible refine r_fld ?_ | with_reducible refine r_prop ?_ | ((with_reducible refine' r_aug ?h1 ?_); (case h1 => exact rfl)) | with_reducible refine r_ipI ?_ | with_reducible refine r_dget ?_ | with_reducible refine r_dput ?_ | with_reducible refine r_bm ?_
  | ((with_reducible refine' r_kDGetS ?h1 ?h2 ?_); (case h1 => assumption); (case h2 => walk_at "val"))
  | ((with_reducible refine' r_kBML ?h1 ?_); (case h1 => assumption))
  | with_reducible refine r_forL ?_ | with_reducible refine r_forR1 ?_ | with_reducible refine r_forR2 ?_ | with_reducible refine r_forT ?_ | with_reducible refine r_lcL ?_ | with_reducible refine r_lcR1 ?_
  | ((with_reducible refine r_kLcG ?hw ?_); (case hw => exact rfl)) | with_reducible refine r_kLcT ?_ | with_reducible refine r_yes ?_
  | with_reducible refine r_pnil ?_ | with_reducible refine r_pcons ?_
  | with_reducible refine r_fnK ?_ | ((with_reducible refine r_kFnK ?hl ?_); (case hl => exact rfl))
  | with_reducible refine r_isi_ii ?_ | with_reducible refine r_isi_ib ?_ | with_reducible refine r_isi_bi ?_ | with_reducible refine r_isi_bb ?_ | with_reducible refine r_isi_ss ?_ | with_reducible refine r_isi_is ?_ | with_reducible refine r_isi_it ?_
  | ((with_reducible refine' r_isi_tt ?h1 ?_); (case h1 => assumption))
  | with_reducible refine r_sfld ?_ | with_reducible refine r_gnil ?_ | with_reducible refine r_gcons ?_
  | ((with_reducible refine' r_gtup ?h1 ?h2 ?_); (case h1 => exact SqT.of (by assumption)); (case h2 => exact rfl))
  | with_reducible refine r_sl ?_ | with_reducible refine r_noPart ?_ | with_reducible refine r_part ?_ | with_reducible refine r_kPart ?_ | with_reducible refine r_m1 ?_ | with_reducible refine r_kM1 ?_ | with_reducible refine r_forS ?_ | with_reducible refine r_lcS ?_ | with_reducible refine r_lcTu ?_ | with_reducible refine r_lcK ?_ | with_reducible refine r_dcL ?_ | with_reducible refine r_lenD ?_
  | ((with_reducible refine r_kDcG ?hw ?_); (case hw => exact rfl)) | with_reducible refine r_kDcT ?_
  | with_reducible refine r_meth ?_ | with_reducible refine r_dz ?_ | with_reducible refine r_revL ?_ | with_reducible refine r_star ?_ | with_reducible refine r_int1 ?_ | with_reducible refine r_int1b ?_ | with_reducible refine r_min2 ?_ | with_reducible refine r_max2 ?_)
local macro_rules | `(tactic| walk_at "rd") => `(tactic| repeat walk_at "rd1")
local macro_rules | `(tactic| walk_at "side") => `(tactic| first | assumption | exact Or.inr ⟨by decide, by decide⟩ | exact Or.inl ⟨by decide, by decide⟩ | (constructor <;> omega) | omega | decide | (refine Or.inl ⟨?_, ?_⟩ <;> omega) | (refine Or.inr ⟨?_, ?_⟩ <;> omega) | (refine ⟨?_, ?_, ?_⟩ <;> first | decide | omega))
def sp_is_number (K : PySem.W.Frag) : Sp := fun vs H Q _ => ∃ (x : V) (o : Option Int), vs = [x] ∧ NumV K H x o ∧ Q (.bl o.isSome) H
def sp_is_number_in (K : PySem.W.Frag) : Sp := fun vs H Q _ => ∃ (x : V) (o : Option Int) (lo hi : Int), vs = [x, .int lo, .int hi] ∧ NumV K H x o ∧ Q (.bl (inB o lo hi)) H
theorem u_in {K : PySem.W.Frag} {H : Hp} {Q : VK} {E : XK} {i lo hi : Int} (h : lo ≤ i ∧ i ≤ hi) (q : Q (.bl true) H) : sp_is_number_in K [.int i, .int lo, .int hi] H Q E := ⟨_, _, _, _, rfl, .int i, by rw [inB_yes h]; exact q⟩
section
variable {P : Program} {w : World} {K : PySem.W.Frag} {mg : Str → Option Value} {base : Heap}
theorem ok_is_number {f : Addr} {fd : FuncData} (T : Tx K mg) (F : FnP K "is_number" s_is_number f fd) : FnOk P w K mg base CX0 1 f fd ["value"] (sp_is_number K) := by
  have sc : FnScope ["value"] ["value"] (defScope s_is_number) := ⟨rfl, rfl, rfl, by decide +kernel, rfl, by decide +kernel, by decide +kernel⟩
  refine F.ok sc (by rintro vs H Q E ⟨_, _, rfl, _⟩; rfl) (fun cdv A outer s H vs Q E hr h => ⟨_, PSs.nox ((pss_one (ps_ret (pe_and (pe_callB (c_isiK (K := K) rfl) (by rfl) T.b_isinstance (by decide +kernel) (pa_cons (pv 0) (pa_cons (pe_bltn (v := .ty "int") (by rfl) T.b_int (by decide +kernel) rfl) pa_nil))) (pe_one (pe_not (pe_callB (c_isiK (K := K) rfl) (by rfl) T.b_isinstance (by decide +kernel) (pa_cons (pv 0) (pa_cons (pe_bltn (v := .ty "bool") (by rfl) T.b_bool (by decide +kernel) rfl) pa_nil))))))))), ?_⟩)
  obtain ⟨x, o, rfl, hx, q⟩ := h
  walk_at "rd"
  cases hx with
  | int i =>
    walk_at "rd"
    exact q
  | @no _ t b1 b2 ht h1 h2 h3 =>
    refine r_isi (.ty "int") ht h1 ?_
    walk_at "rd"
    cases b1 with
    | false =>
      walk_at "rd"
      exact q
    | true =>
      walk_at "rd"
      refine r_isi (.ty "bool") ht h2 ?_
      walk_at "rd"
      have e : (!b2) = false := h3
      rw [e]
      exact q
theorem ok_is_number_in {f : Addr} {fd : FuncData} (T : Tx K mg) (F : FnP K "is_number_in" s_is_number_in f fd) (d_is_number : Dn P w K mg base CX0 1 "is_number" ["value"] (sp_is_number K)) :
    FnOk P w K mg base CX0 2 f fd ["value", "least", "most"] (sp_is_number_in K) := by
  have sc : FnScope ["value", "least", "most"] ["value", "least", "most"] (defScope s_is_number_in) := ⟨rfl, rfl, rfl, by decide +kernel, rfl, by decide +kernel, by decide +kernel⟩
  refine F.ok sc (by rintro vs H Q E ⟨_, _, _, _, rfl, _⟩; rfl) (fun cdv A outer s H vs Q E hr h => ⟨_, PSs.nox ((pss_one (ps_ret (pe_and (pe_fn d_is_number (hr.mono (by decide)) pass0 (pa_cons (pv 0) pa_nil)) (pe_one (pe_chain op_le op_le (pv 1) (pv 0) (pv 2))))))), ?_⟩)
  obtain ⟨x, o, lo, hi, rfl, hx, q⟩ := h
  walk_at "rd"
  refine ⟨x, o, rfl, hx, ?_⟩
  walk_at "rd"
  cases hx with
  | int i =>
    refine w_yes rfl ?_
    walk_at "rd"
    refine r_kChain (fun h1 => ?_) (fun h1 => ?_)
    · walk_at "rd"
      have e : inB (some i) lo hi = decide (i ≤ hi) := by
        show (decide (lo ≤ i) && decide (i ≤ hi)) = _
        rw [h1]
        rfl
      rw [← e]
      exact q
    · have e : inB (some i) lo hi = false := by
        show (decide (lo ≤ i) && decide (i ≤ hi)) = _
        rw [h1]
        rfl
      rw [← e]
      exact q
  | no ht h1 h2 h3 =>
    walk_at "rd"
    exact q
end
end Wp
set_option Elab.async false
set_option linter.all false
set_option maxRecDepth 100000
set_option maxHeartbeats 4000000
/-! More of the draws; the law's own promise. -/
namespace Wp
open PySem PySem.Spec PyProof.Rows L2
/-- ints within bounds -/
def IntsIn (lo hi : Int) : List V → Prop
  | [] => True
  | x :: xs => (∃ z, x = .int z ∧ lo ≤ z ∧ z ≤ hi) ∧ IntsIn lo hi xs
theorem IntsIn.get {lo hi : Int} : ∀ {xs : List V} {i : Nat} {x : V}, IntsIn lo hi xs → xs[i]? = some x → ∃ z, x = .int z ∧ lo ≤ z ∧ z ≤ hi
  | [], _, _, _, h => by simp at h
  | _ :: _, 0, _, a, h => by
    have e := Option.some.inj h
    subst e
    exact a.1
  | _ :: r, i + 1, x, a, h => IntsIn.get (xs := r) (i := i) a.2 h
def AnyI : List V → Prop
  | [] => True
  | x :: xs => (∃ z, x = .int z) ∧ AnyI xs
theorem AnyI.get : ∀ {xs : List V} {i : Nat} {x : V}, AnyI xs → xs[i]? = some x → ∃ z, x = .int z
  | [], _, _, _, h => by simp at h
  | _ :: _, 0, _, a, h => by
    have e := Option.some.inj h
    subst e
    exact a.1
  | _ :: r, i + 1, x, a, h => AnyI.get (xs := r) (i := i) a.2 h
section
variable {K : PySem.W.Frag} {st l c p : Addr} {cs : List Int} {B n : Int} {H H0 H' : Hp} {Q : VK} {E : XK} {xs : List V}
theorem DS.nl (D : DS st l c cs B H) (h : H p = none) : p ≠ l := by
  obtain ⟨zs, _, hl⟩ := D.lg
  exact (ne_of_none hl h).symm
theorem DS.nst (D : DS st l c cs B H) (h : H p = none) : p ≠ st := by
  obtain ⟨r, t, _, _, _, hd⟩ := D.d
  exact (ne_of_none hd h).symm
theorem u_take (D : DS st l c cs B H) (hB : B ≤ 35184372088832) (h1 : 0 < n) (h2 : n < 1073741824) (k : ∀ (i : Int) (H' : Hp), 0 ≤ i → i < n → DS st l c cs (B + 1) H' → Kp st l H H' → Q (.int i) H') : sp_take [.ref st, .int n] H Q E :=
  ⟨st, l, c, cs, B, n, rfl, h1, h2, hB, D, k⟩
theorem u_pick (D : DS st l c cs B H0) (hB : B ≤ 35184372088832) (np : H0 p = none) (e : Same H0 H) (hp : H p = some (.lst xs)) (hne : xs ≠ []) (hlen : xs.length < 1000000)
    (k : ∀ (i : Nat) (x : V) (H' : Hp), xs[i]? = some x → DS st l c cs (B + 1) H' → Kp st l H0 H' → Q x H') : sp_pick [.ref st, .ref p] H Q E :=
  ⟨st, l, c, p, cs, B, xs, rfl, hB, D.keep e, hp, hne, hlen, D.nl np, fun i x H' hx D' k' => k i x H' hx D' ((Kp.of e).trans k')⟩
theorem Kp.tup {ys : List V} (k : Kp st l H H') (D : DS st l c cs B H) (h : H p = some (.tup ys)) : H' p = some (.tup ys) := by
  obtain ⟨zs, _, hl⟩ := D.lg
  obtain ⟨r, t, _, _, _, hd⟩ := D.d
  exact k _ _ h (ne_of h hd (by intro z; cases z)) (ne_of h hl (by intro z; cases z))
end
def spLaw (K : PySem.W.Frag) : Sp := fun vs H Q _ => ∃ (a : Addr) (cs : List Int), vs = [.ref a] ∧ SqL K H a (cs.map V.int) ∧ cs.length ≤ 63 ∧ ∀ H', Q (.bl true) H'
theorem SqL.kp {K : PySem.W.Frag} {st l a : Addr} {H H1 H2 : Hp} {xs : List V} (h : SqL K H a xs) (e : Same H H1) (n1 : H st = none) (n2 : H l = none) (k : Kp st l H1 H2) : SqL K H2 a xs := by
  rcases h with (h | ⟨o, h⟩) | h
  · exact .inl (.inl (k _ _ (e _ _ h) (ne_of_none h n1) (ne_of_none h n2)))
  · exact .inl (.inr ⟨o, k _ _ (e _ _ h) (ne_of_none h n1) (ne_of_none h n2)⟩)
  · exact .inr h
section
variable {st l c p : Addr} {cs : List Int} {B : Int} {H H0 H' : Hp}
theorem DS.nc (D : DS st l c cs B H) (h : H p = none) : p ≠ c := (ne_of_none D.cl h).symm
theorem DS.but {B' : Int} (D : DS st l c cs B H) (D0 : DS st l c cs B' H0) (n : H0 p = none) (b : But p H H') : DS st l c cs B H' := by
  obtain ⟨⟨r, t, hr, h0, h1, h⟩, ⟨zs, hz, h2⟩, h3, n1⟩ := D
  exact ⟨⟨r, t, hr, h0, h1, b _ _ h (D0.nst n).symm⟩, ⟨zs, hz, b _ _ h2 (D0.nl n).symm⟩, b _ _ h3 (D0.nc n).symm, n1⟩
/-- after a draw and a change of what was new -/
theorem Kp.mut {H1 H2 : Hp} (k : Kp st l H H1) (b : But p H1 H2) (n : H p = none) : Kp st l H H2 := fun x o h n1 n2 => b x o (k x o h n1 n2) (ne_of_none h n)
end
end Wp
set_option Elab.async false
set_option linter.all false
set_option maxRecDepth 100000
set_option maxHeartbeats 4000000
/-! Properties of own classes: a rule by name, and a look at their getters when the program has been run. -/
namespace Wp
open PySem PySem.Spec PyProof.Rows L2
/-- a property whose getter keeps the promise -/
structure Dpr (P : Program) (w : World) (K : PySem.W.Frag) (mg : Str → Option Value) (base : Heap) (CX : CXT) (k : Nat) (C : Addr) (f : Str) (sp : Sp) : Prop where
  ex : ∃ (p g : Addr) (fd : FuncData) (ps : List Str), PropOf K C f p g ∧ FnOk P w K mg base CX k g fd ps sp ∧ Binds K fd ps []
  cl : Cls K C
def kProp (C : Addr) (sp : Sp) (E : XK) (Q : VK) : VK := fun x H1 => ∃ a dx fs, x = .ref a ∧ H1 a = some (.ins C dx fs) ∧ sp [.ref a] H1 Q E
section
variable {X : Cx} {CX : CXT} {k : Nat} {C a dx : Addr} {f : Str} {sp : Sp} {E : XK} {e : Expr} {pos : Pos} {ta : TE} {fs : List (Str × V)}
theorem pe_propA (D : Dpr X.prog X.w X.K X.mg X.base CX k C f sp) (he : PE X e ta) (hr : Room (k + 1) X.A) (hx : Passes CX X.nox E)
    (hab : attributeBase e f X.env (eval e X.env) = eval e X.env := by rfl) : PE X (.Attribute e f pos) (tProp C sp [] E ta) := by
  obtain ⟨p, g, fd, ps, h1, h2, h3⟩ := D.ex
  exact pe_prop he D.cl h1 h2 hr h3 .nil hx hab
theorem r_prop {σ : L2.St} {H : Hp} {Q : VK} (q : ta σ H (kProp C sp E Q)) : tProp C sp [] E ta σ H Q := q
theorem r_kProp {H : Hp} {Q : VK} (h : H a = some (.ins C dx fs)) (q : sp [.ref a] H Q E) : kProp C sp E Q (.ref a) H := ⟨a, dx, fs, rfl, h, q⟩
end
/-! x += e -/
theorem r_aug {i : Nat} {te : TE} {ti : TIp} {D : Ends} {σ : L2.St} {H : Hp} {x : V} (h : σ[i]? = some (some x)) (q : te σ H fun y H1 => ti x y H1 fun z H2 => D.nx (σ.set i (some z)) H2) : tAug i te ti D σ H := ⟨x, h, q⟩
theorem r_ipI {f : Int → Int → Int} {i j : Int} {H : Hp} {Q : VK} (q : Q (.int (f i j)) H) : ipI f (.int i) (.int j) H Q := ⟨i, j, rfl, rfl, q⟩
/-! ### the look -/
/-- where the getter of the property f of class c stands -/
def gAd (K : PySem.W.Frag) (c f : Str) : Addr := match PySem.W.recIn K (He.ma K (He.ga K c) f) "property" with
  | some (.ref g :: _) => g
  | _ => 0
structure GetD where
  c : Str
  f : Str
  qual : Str
  params : Arguments
  body : List Stmt
  scope : Scope
def fnY (K : PySem.W.Frag) (d : GetD) : He.FnW := match K.lookup (gAd K d.c d.f) with
  | some ⟨_, _, .func z, _⟩ => some (z.name, z.qualname, z.params, z.body, z.scope, z.globals, z.closure, z.builtins)
  | _ => none
def GetD.val (d : GetD) : He.FnW := some (d.f, d.qual, d.params, .stmts d.body, d.scope, mainGlobals, [], builtinsNs)
def propB (K : PySem.W.Frag) (c f : Str) : Bool := He.eqO (PySem.W.findIn K (.ref (He.ga K c)) f) (some (some (.ref (He.ma K (He.ga K c) f)))) &&
  (He.eqO (PySem.W.specialIn K (.ref (He.ma K (He.ga K c) f)) "__get__") (some (some (.builtin "property.__get__"))) && (decide (PySem.W.takesIn K (.ref (He.ma K (He.ga K c) f)) = some true) &&
  (match PySem.W.recIn K (He.ma K (He.ga K c) f) "property" with
  | some (.ref _ :: _) => true
  | _ => false)))
def GetD.ok (K : PySem.W.Frag) (d : GetD) : Bool := propB K d.c d.f && (PySem.W.keepIn K (.ref (gAd K d.c d.f)) && (match K.lookup (gAd K d.c d.f) with
  | some ⟨_, _, .func z, _⟩ => PySem.W.codeIn K z.code d.qual && (He.dflB K z.defaults [] && He.kwdB K z.kwdefaults [])
  | _ => false))
theorem propB_ok {K : PySem.W.Frag} {c f : Str} (h : propB K c f = true) : PropOf K (He.ga K c) f (He.ma K (He.ga K c) f) (gAd K c f) := by
  obtain ⟨h1, h⟩ := He.ba h
  obtain ⟨h2, h⟩ := He.ba h
  obtain ⟨h3, h4⟩ := He.ba h
  refine ⟨He.eqO_ok h1, He.eqO_ok h2, of_decide_eq_true h3, ?_⟩
  unfold gAd
  cases q : PySem.W.recIn K (He.ma K (He.ga K c) f) "property" with
  | none =>
    rw [q] at h4
    cases h4
  | some l =>
    rw [q] at h4
    cases l with
    | nil => cases h4
    | cons x r =>
      cases x with
      | ref g => exact ⟨r, rfl⟩
      | _ => cases h4
theorem GetD.funD {K : PySem.W.Frag} {d : GetD} (e : fnY K d = d.val) (c : d.ok K = true) : PropOf K (He.ga K d.c) d.f (He.ma K (He.ga K d.c) d.f) (gAd K d.c d.f) ∧ ∃ fd, FunD K d.f d.qual d.params d.body d.scope [] [] (gAd K d.c d.f) fd := by
  obtain ⟨hp, c1⟩ := He.ba c
  refine ⟨propB_ok hp, ?_⟩
  obtain ⟨hk, c2⟩ := He.ba c1
  unfold fnY at e
  cases q : K.lookup (gAd K d.c d.f) with
  | none =>
    rw [q] at e
    cases e
  | some o =>
    obtain ⟨a1, a2, a3, a4⟩ := o
    rw [q] at e c2
    cases a3 with
    | func z =>
      obtain ⟨z1, z2, z3, z4, z5, z6, z7, z8, z9, z10, z11, z12, z13, z14, z15⟩ := z
      have e3 : ((z1, z2, z3, z4, z5, z6, z7, z15) : Str × Str × Arguments × FuncBody × Scope × Addr × List (Str × Addr) × Addr) = (d.f, d.qual, d.params, .stmts d.body, d.scope, mainGlobals, [], builtinsNs) := Option.some.inj e
      simp only [Prod.mk.injEq] at e3
      obtain ⟨rfl, rfl, rfl, rfl, rfl, rfl, rfl, rfl⟩ := e3
      obtain ⟨k1, k2⟩ := He.ba (a := PySem.W.codeIn K z13 d.qual) c2
      obtain ⟨k3, k4⟩ := He.ba k2
      exact ⟨_, ⟨a1, a2, z8, z9, z10, z11, z12, z13, z14, a4, rfl, q, k1, He.dflB_ok k3, He.kwdB_ok k4⟩, hk⟩
    | _ => cases e
/-- what is told besides: the getters -/
abbrev AlY : Type := He.AlX × Bool × List He.FnW
def obsY (n : Nat) (fa : List He.Fa) (fn : List He.DefD) (gs : List GetD) (ex : PySem.W.Frag → Bool) (g : Addr → Option Obj) : AlY :=
  (He.obsX n fa fn [] [] ex g, gs.all (fun d => d.ok (He.frT g (He.asD g n))), gs.map fun d => fnY (He.frT g (He.asD g n)) d)
def valY (fn : List He.DefD) (gs : List GetD) (w : World) : AlY := (He.valX fn [] w, true, gs.map GetD.val)
structure SaysY (fa : List He.Fa) (fn : List He.DefD) (gs : List GetD) (ex : PySem.W.Frag → Bool) (w : World) (h : Heap) (K : PySem.W.Frag) : Prop where
  x : He.SaysX fa fn [] [] ex w h K
  g : ∀ d ∈ gs, PropOf K (He.ga K d.c) d.f (He.ma K (He.ga K d.c) d.f) (gAd K d.c d.f) ∧ ∃ fd, FunD K d.f d.qual d.params d.body d.scope [] [] (gAd K d.c d.f) fd
theorem saysY_of {n : Nat} {fa : List He.Fa} {fn : List He.DefD} {gs : List GetD} {ex : PySem.W.Frag → Bool} {w : World} {h : Heap} (e : obsY n fa fn gs ex h.get? = valY fn gs w) : SaysY fa fn gs ex w h (He.frT h.get? (He.asD h.get? n)) := by
  have e1 : He.obsX n fa fn [] [] ex h.get? = He.valX fn [] w := congrArg (fun z : AlY => z.1) e
  have e2 : gs.all (fun d => d.ok (He.frT h.get? (He.asD h.get? n))) = true := congrArg (fun z : AlY => z.2.1) e
  have e3 : gs.map (fun d => fnY (He.frT h.get? (He.asD h.get? n)) d) = gs.map GetD.val := congrArg (fun z : AlY => z.2.2) e
  exact ⟨He.saysX_of e1, fun d hd => GetD.funD (List.map_inj_left.mp e3 d hd) (List.all_eq_true.mp e2 d hd)⟩
def hookY (n : Nat) (fa : List He.Fa) (fn : List He.DefD) (gs : List GetD) (ex : PySem.W.Frag → Bool) : PySem.W.Hook where
  α := AlY
  obs := fun s => obsY n fa fn gs ex s.heap.get?
  val := fun w => valY fn gs w
  says := fun w h => ∃ K : PySem.W.Frag, K.In h ∧ SaysY fa fn gs ex w h K
  of := fun _ _ e => ⟨_, He.frT_in, saysY_of e⟩
  keeps := fun _ _ _ ⟨K, hK, c⟩ k => ⟨K, PySem.W.Frag.In.keeps hK k, ⟨⟨c.x.t, c.x.more, c.x.hd, c.x.out, fun p hp => k _ _ (c.x.empty p hp)⟩, c.g⟩⟩
theorem obsY_eq {n : Nat} {fa : List He.Fa} {fn : List He.DefD} {gs : List GetD} {ex : PySem.W.Frag → Bool} {g : Addr → Option Obj} {s : Shared} (h : ∀ a, g a = s.heap.get? a) : obsY n fa fn gs ex g = (hookY n fa fn gs ex).obs s := by
  obtain rfl : g = s.heap.get? := funext h
  rfl
end Wp
set_option Elab.async false
set_option linter.all false
set_option maxRecDepth 100000
set_option maxHeartbeats 4000000
/-! Readings of texts, slices, dicts, loops over any source. -/
namespace Wp
open PySem PySem.Spec PyProof.Rows L2
section
variable {t u tw : TS} {D : Ends} {σ : L2.St} {H : Hp} {te ta tb tl tk tv td : TE} {tt : TT} {tr : TA} {g : TG} {Q : VK} {v x y : V} {n : Nat} {b : Bool} {K : PySem.W.Frag} {a p q : Addr} {xs ys : List V} {vs : List Nat} {z : Str} {i : Int} {J : It}
/-! slices -/
theorem r_sl {r : V → Option Int → Option Int → Hp → VK → Prop} {tlo thi : TO} (h : te σ H fun x H1 => tlo σ H1 fun l H2 => thi σ H2 fun u H3 => r x l u H3 Q) : tSl r te tlo thi σ H Q := h
theorem r_noPart {QO : Option Int → Hp → Prop} (h : QO none H) : tNoPart σ H QO := h
def kPart (QO : Option Int → Hp → Prop) : VK := fun x H1 => ∃ i, x = .int i ∧ QO (some i) H1
theorem r_part {QO : Option Int → Hp → Prop} (h : te σ H (kPart QO)) : tPart te σ H QO := h
theorem r_kPart {QO : Option Int → Hp → Prop} (h : QO (some i) H) : kPart QO (.int i) H := ⟨i, rfl, h⟩
theorem r_slS {lo hi : Option Int} (hz : z.length ≤ 1000000) (h : Q (.str (cutS z lo hi)) H) : rSlS (.str z) lo hi H Q := ⟨z, rfl, sz5 hz, h⟩
theorem r_slL {lo hi : Option Int} (hl : SqL K H p xs) (h : ∀ q H', H q = none → Same H H' → H' q = some (.lst (cutV xs lo hi)) → Q (.ref q) H') : rSlL K (.ref p) lo hi H Q :=
  ⟨p, xs, rfl, hl, fun q hq => h q _ hq (Same.new hq) upd_same⟩
/-! texts -/
def kM1 (r : V → List V → Hp → VK → Prop) (te : TE) (σ : L2.St) (Q : VK) : VK := fun x H1 => (∃ a, x = .str a) ∧ te σ H1 fun y H2 => r x [y] H2 Q
theorem r_m1 {r : V → List V → Hp → VK → Prop} (h : ta σ H (kM1 r te σ Q)) : tM1 r ta te σ H Q := h
theorem r_kM1 {r : V → List V → Hp → VK → Prop} (h : te σ H fun y H2 => r (.str z) [y] H2 Q) : kM1 r te σ Q (.str z) H := ⟨⟨z, rfl⟩, h⟩
theorem r_ixS {c : Nat} (hz : z.length ≤ 1000000) (e : atI z.cps.toList i = some c) (h : Q (.str ⟨#[c]⟩) H) : rIxS (.str z) (.int i) H Q := ⟨z, i, c, rfl, rfl, sz5 hz, e, h⟩
theorem r_lenS (hz : z.length ≤ 1000000) (h : Q (.int (z.length : Nat)) H) : rLen K [.str z] H Q := ⟨_, _, rfl, ⟨sz5 hz, rfl⟩, h⟩
/-! loops over any source -/
def LoopW (J : It) (g : TG) (tw : TS) (D : Ends) (σ : L2.St) (H1 : Hp) : Prop := ∃ W : Nat → Nat → L2.St → Hp → Prop, (∃ m, W 0 m σ H1) ∧ ∀ i m σ H, W i m σ H →
  (J.stop i H ∧ D.nx σ H) ∨ (J.go i H ∧ ∃ N : L2.St → Hp → Prop, (∀ σ' H', N σ' H' → ∃ m', m' < m ∧ W (i + 1) m' σ' H') ∧ ∀ x H', J.yld i H x H' → g x σ H' fun σ2 H2 => tw { D with nx := N, ct := N, bk := D.nx } σ2 H2)
theorem loop_it (n : Nat) (Pv : Nat → L2.St → Hp → Prop) (h0 : Pv 0 σ H) (hgo : ∀ i σ' H', i < n → Pv i σ' H' → J.go i H') (hst : ∀ σ' H', Pv n σ' H' → J.stop n H')
    (hs : ∀ i x σ' H' H2, i < n → Pv i σ' H' → J.yld i H' x H2 → g x σ' H2 fun σ2 H3 => tw { D with nx := Pv (i + 1), ct := Pv (i + 1), bk := D.nx } σ2 H3)
    (hd : ∀ σ' H', Pv n σ' H' → D.nx σ' H') : LoopW J g tw D σ H := by
  refine ⟨fun i m σ H => m = n - i ∧ i ≤ n ∧ Pv i σ H, ⟨n, by simp, Nat.zero_le _, h0⟩, ?_⟩
  rintro i m σ H ⟨rfl, hi, p⟩
  by_cases hlt : i < n
  · exact .inr ⟨hgo i σ H hlt p, Pv (i + 1), fun σ' H' p' => ⟨n - (i + 1), by omega, rfl, hlt, p'⟩, fun x H' y => hs i x σ H H' hlt p y⟩
  · obtain rfl : i = n := by omega
    exact .inl ⟨hst σ H p, hd σ H p⟩
def LcW (J : It) (g : TG) (tt : TT) (te : TE) (vs : List Nat) (σ : L2.St) (Q : VK) (H1 : Hp) : Prop := ∀ D, H1 D = none → ∃ W : Nat → Nat → Hp → Prop, (∃ m, W 0 m (upd H1 D (.lst []))) ∧ ∀ i m H, W i m H →
  (J.stop i H ∧ Q (.ref D) H) ∨ (J.go i H ∧ ∃ Nx : Hp → Prop, (∀ H', Nx H' → ∃ m', m' < m ∧ W (i + 1) m' H') ∧ ∀ x H', J.yld i H x H' → g x (wipe σ vs) H' fun σ2 H2 => wipe σ2 vs = wipe σ vs ∧ tt σ2 H2 fun b H3 =>
    if b = true then te σ2 H3 fun y H4 => ∃ acc, H4 D = some (.lst acc) ∧ acc.length < sizeLine ∧ Nx (upd H4 D (.lst (acc ++ [y]))) else Nx H3)
theorem lc_it (n : Nat) (Pv : Addr → Nat → Hp → Prop) (h0 : ∀ Da H', H Da = none → Same H H' → H' Da = some (.lst []) → Pv Da 0 H') (hgo : ∀ Da i H', H Da = none → i < n → Pv Da i H' → J.go i H') (hst : ∀ Da H', H Da = none → Pv Da n H' → J.stop n H')
    (hs : ∀ Da i x H' H2, H Da = none → i < n → Pv Da i H' → J.yld i H' x H2 → g x (wipe σ vs) H2 (kLcG tt te vs σ Da Pv i)) (hd : ∀ Da H', H Da = none → Pv Da n H' → Q (.ref Da) H') : LcW J g tt te vs σ Q H := by
  intro Da hD
  refine ⟨fun i m H' => m = n - i ∧ i ≤ n ∧ Pv Da i H', ⟨n, by simp, Nat.zero_le _, h0 Da _ hD (Same.new hD) upd_same⟩, ?_⟩
  rintro i m H' ⟨rfl, hi, p⟩
  by_cases hlt : i < n
  · exact .inr ⟨hgo Da i H' hD hlt p, Pv Da (i + 1), fun H'' p' => ⟨n - (i + 1), by omega, rfl, hlt, p'⟩, fun x H'' y => hs Da i x H' H'' hD hlt p y⟩
  · obtain rfl : i = n := by omega
    exact .inl ⟨hst Da H' hD p, hd Da H' hD p⟩
def DcW (J : It) (g : TG) (tt : TT) (tk tv : TE) (vs : List Nat) (σ : L2.St) (Q : VK) (H1 : Hp) : Prop := ∀ D, H1 D = none → ∃ W : Nat → Nat → Hp → Prop, (∃ m, W 0 m (upd H1 D (.dK []))) ∧ ∀ i m H, W i m H →
  (J.stop i H ∧ Q (.ref D) H) ∨ (J.go i H ∧ ∃ Nx : Hp → Prop, (∀ H', Nx H' → ∃ m', m' < m ∧ W (i + 1) m' H') ∧ ∀ x H', J.yld i H x H' → g x (wipe σ vs) H' fun σ2 H2 => wipe σ2 vs = wipe σ vs ∧ tt σ2 H2 fun b H3 =>
    if b = true then tk σ2 H3 fun y H4 => tv σ2 H4 fun z H5 => ∃ kvs k, y = kV k ∧ H5 D = some (.dK kvs) ∧ kvs.length < sizeLine ∧ Nx (upd H5 D (.dK (putK kvs k z))) else Nx H3)
def kDcE (Da : Addr) (Pv : Addr → Nat → Hp → Prop) (i : Nat) (y : V) : VK := fun z H5 => ∃ kvs k, y = kV k ∧ H5 Da = some (.dK kvs) ∧ kvs.length < sizeLine ∧ Pv Da (i + 1) (upd H5 Da (.dK (putK kvs k z)))
def kDcT (tk tv : TE) (σ2 : L2.St) (Da : Addr) (Pv : Addr → Nat → Hp → Prop) (i : Nat) : Bool → Hp → Prop := fun b H3 => if b = true then tk σ2 H3 fun y H4 => tv σ2 H4 (kDcE Da Pv i y) else Pv Da (i + 1) H3
def kDcG (tt : TT) (tk tv : TE) (vs : List Nat) (σ : L2.St) (Da : Addr) (Pv : Addr → Nat → Hp → Prop) (i : Nat) : L2.St → Hp → Prop := fun σ2 H2 => wipe σ2 vs = wipe σ vs ∧ tt σ2 H2 (kDcT tk tv σ2 Da Pv i)
theorem r_kDcG {Da : Addr} {Pv : Addr → Nat → Hp → Prop} {i : Nat} {σ2 : L2.St} (h : wipe σ2 vs = wipe σ vs) (q : tt σ2 H (kDcT tk tv σ2 Da Pv i)) : kDcG tt tk tv vs σ Da Pv i σ2 H := ⟨h, q⟩
theorem r_kDcT {Da : Addr} {Pv : Addr → Nat → Hp → Prop} {i : Nat} {σ2 : L2.St} (q : if b = true then tk σ2 H fun y H4 => tv σ2 H4 (kDcE Da Pv i y) else Pv Da (i + 1) H) : kDcT tk tv σ2 Da Pv i b H := q
theorem r_kDcE {Da : Addr} {Pv : Addr → Nat → Hp → Prop} {i : Nat} {kvs : List (Key × V)} {kx : Key} {zv : V} (h : H Da = some (.dK kvs)) (hz : kvs.length < 1000000) (q : ∀ H', But Da H H' → H' Da = some (.dK (putK kvs kx zv)) → Pv Da (i + 1) H') : kDcE Da Pv i (kV kx) zv H :=
  ⟨kvs, kx, rfl, h, sz6 hz, q _ But.upd upd_same⟩
theorem dc_it (n : Nat) (Pv : Addr → Nat → Hp → Prop) (h0 : ∀ Da H', H Da = none → Same H H' → H' Da = some (.dK []) → Pv Da 0 H') (hgo : ∀ Da i H', H Da = none → i < n → Pv Da i H' → J.go i H') (hst : ∀ Da H', H Da = none → Pv Da n H' → J.stop n H')
    (hs : ∀ Da i x H' H2, H Da = none → i < n → Pv Da i H' → J.yld i H' x H2 → g x (wipe σ vs) H2 (kDcG tt tk tv vs σ Da Pv i)) (hd : ∀ Da H', H Da = none → Pv Da n H' → Q (.ref Da) H') : DcW J g tt tk tv vs σ Q H := by
  intro Da hD
  refine ⟨fun i m H' => m = n - i ∧ i ≤ n ∧ Pv Da i H', ⟨n, by simp, Nat.zero_le _, h0 Da _ hD (Same.new hD) upd_same⟩, ?_⟩
  rintro i m H' ⟨rfl, hi, p⟩
  by_cases hlt : i < n
  · exact .inr ⟨hgo Da i H' hD hlt p, Pv Da (i + 1), fun H'' p' => ⟨n - (i + 1), by omega, rfl, hlt, p'⟩, fun x H'' y => hs Da i x H' H'' hD hlt p y⟩
  · obtain rfl : i = n := by omega
    exact .inl ⟨hst Da H' hD p, hd Da H' hD p⟩
/-! over a text -/
def kForS (g : TG) (tw : TS) (D : Ends) (σ : L2.St) : VK := fun v H1 => ∃ x, v = .str x ∧ LoopW (Its x) g tw D σ H1
theorem r_forS (h : te σ H (kForS g tw D σ)) : tFor (iStr te) g tw D σ H := h
theorem r_kForS (Pv : Nat → L2.St → Hp → Prop) (h0 : Pv 0 σ H) (hs : ∀ i c σ' H', z.cps[i]? = some c → Pv i σ' H' → g (.str ⟨#[c]⟩) σ' H' fun σ2 H3 => tw { D with nx := Pv (i + 1), ct := Pv (i + 1), bk := D.nx } σ2 H3)
    (hd : ∀ σ' H', Pv z.cps.size σ' H' → D.nx σ' H') : kForS g tw D σ (.str z) H :=
  ⟨z, rfl, loop_it z.cps.size Pv h0 (fun i _ _ hi _ => hi) (fun _ _ _ => Nat.le_refl _) (fun i x σ' H' H2 _ p y => by
    obtain ⟨rfl, c, hc, rfl⟩ := y
    exact hs i c σ' _ hc p) hd⟩
def kLcS (g : TG) (tt : TT) (te : TE) (vs : List Nat) (σ : L2.St) (Q : VK) : VK := fun v H1 => ∃ x, v = .str x ∧ LcW (Its x) g tt te vs σ Q H1
theorem r_lcS (h : ta σ H (kLcS g tt te vs σ Q)) : tLc (iStr ta) g tt te vs σ H Q := h
theorem r_kLcS (Pv : Addr → Nat → Hp → Prop) (h0 : ∀ Da H', H Da = none → Same H H' → H' Da = some (.lst []) → Pv Da 0 H')
    (hs : ∀ Da i c H', H Da = none → z.cps[i]? = some c → Pv Da i H' → g (.str ⟨#[c]⟩) (wipe σ vs) H' (kLcG tt te vs σ Da Pv i)) (hd : ∀ Da H', H Da = none → Pv Da z.cps.size H' → Q (.ref Da) H') : kLcS g tt te vs σ Q (.str z) H :=
  ⟨z, rfl, lc_it z.cps.size Pv h0 (fun _ i _ _ hi _ => hi) (fun _ _ _ _ => Nat.le_refl _) (fun Da i x H' H2 hD _ p y => by
    obtain ⟨rfl, c, hc, rfl⟩ := y
    exact hs Da i c _ hD hc p) hd⟩
/-! over a tuple, in a block -/
def kLcTu (K : PySem.W.Frag) (g : TG) (tt : TT) (te : TE) (vs : List Nat) (σ : L2.St) (Q : VK) : VK := fun x H1 => ∃ a, x = .ref a ∧ (∃ xs, SqT K H1 a xs) ∧ LcW (Itt K a) g tt te vs σ Q H1
theorem r_lcTu (q : tl σ H (kLcTu K g tt te vs σ Q)) : tLc (iTup K tl) g tt te vs σ H Q := q
theorem r_kLcTu (Pv : Addr → Nat → Hp → Prop) (hl : SqT K H a xs) (h0 : ∀ Da H', H Da = none → Same H H' → H' Da = some (.lst []) → Pv Da 0 H') (hk : ∀ Da i H', Pv Da i H' → SqT K H' a xs)
    (hs : ∀ Da i x H', H Da = none → xs[i]? = some x → Pv Da i H' → g x (wipe σ vs) H' (kLcG tt te vs σ Da Pv i)) (hd : ∀ Da H', H Da = none → Pv Da xs.length H' → Q (.ref Da) H') : kLcTu K g tt te vs σ Q (.ref a) H :=
  ⟨a, rfl, ⟨xs, hl⟩, fun Da hD => lc_tup (Pv Da) (h0 Da _ hD (Same.new hD) upd_same) (fun i H' _ p => hk Da i H' p) (fun i x H' hx p => hs Da i x H' hD hx p) (fun H' p => hd Da H' hD p)⟩
end
end Wp
set_option Elab.async false
set_option linter.all false
set_option maxRecDepth 100000
set_option maxHeartbeats 4000000
/-! One rule or another; things locked while they are gone through; sums of tuples. -/
namespace Wp
open PySem PySem.Spec PyProof.Rows L2
/-! ### either -/
def iEither (a b : TI) : TI := fun σ H R => a σ H R ∨ b σ H R
theorem pi_either {X : Cx} {tg l : Expr} {a b : TI} (ha : PI X tg l a) (hb : PI X tg l b) : PI X tg l (iEither a b) :=
  ⟨fun pins s σ H R I h => h.elim (fun h => ha.run pins s σ H R I h) (fun h => hb.run pins s σ H R I h)⟩
def rEither (a b : List V → Hp → VK → Prop) : List V → Hp → VK → Prop := fun xs H Q => a xs H Q ∨ b xs H Q
theorem c_either {X : Cx} {f : Value} {a b : List V → Hp → VK → Prop} (ha : CallR X f a) (hb : CallR X f b) : CallR X f (rEither a b) :=
  fun pins s σ H xs us Q I r h => h.elim (fun h => ha pins s σ H xs us Q I r h) (fun h => hb pins s σ H xs us Q I r h)
/-- code that is not reached -/
theorem pe_dead {X : Cx} {e : Expr} : PE X e (fun _ _ _ => False) := ⟨fun _ _ _ _ _ _ h => h.elim⟩
theorem pt_dead {X : Cx} {e : Expr} : PT X e (fun _ _ _ => False) := ⟨fun _ _ _ _ _ _ h => h.elim⟩
/-- a list or a tuple -/
def SeqV (K : PySem.W.Frag) (H : Hp) (p : Addr) (xs : List V) : Prop := SqL K H p xs ∨ SqT K H p xs
section
variable {K : PySem.W.Frag} {H : Hp} {Q : VK} {p d : Addr} {xs : List V} {σ : L2.St} {g : TG} {tt : TT} {te tk tv ta tl : TE} {vs : List Nat} {i j : Nat}
theorem r_lenSeq (h : SeqV K H p xs) (q : Q (.int (xs.length : Nat)) H) : rLen K [.ref p] H Q := h.elim (fun h => r_lenL h q) (fun h => r_lenT h q)
theorem r_lcEither (hl : SeqV K H p xs) (h : σ[i]? = some (some (.ref p))) (Pv : Addr → Nat → Hp → Prop) (h0 : ∀ Da H', H Da = none → Same H H' → H' Da = some (.lst []) → Pv Da 0 H') (hk : ∀ Da i H', Pv Da i H' → SeqV K H' p xs ∧ Same H H')
    (hs : ∀ Da i x H', H Da = none → xs[i]? = some x → Pv Da i H' → g x (wipe σ vs) H' (kLcG tt te vs σ Da Pv i)) (hd : ∀ Da H', H Da = none → Pv Da xs.length H' → Q (.ref Da) H')
    (keepL : ∀ H', Same H H' → SqL K H p xs → SqL K H' p xs) (keepT : ∀ H', Same H H' → SqT K H p xs → SqT K H' p xs) :
    tLc (iEither (iList K (tVar i)) (iTup K (tVar i))) g tt te vs σ H Q := by
  rcases hl with hl | hl
  · exact .inl (r_lcL (r_var h (r_kLcL Pv hl h0 (fun Da i H' p => keepL H' (hk Da i H' p).2 hl) hs hd)))
  · exact .inr (r_lcTu (r_var h (r_kLcTu Pv hl h0 (fun Da i H' p => keepT H' (hk Da i H' p).2 hl) hs hd)))
theorem SqL.same {H' : Hp} (e : Same H H') (h : SqL K H p xs) : SqL K H' p xs := by
  rcases h with (h | ⟨o, h⟩) | h
  · exact .inl (.inl (e _ _ h))
  · exact .inl (.inr ⟨o, e _ _ h⟩)
  · exact .inr h
theorem SqT.same {H' : Hp} (e : Same H H') (h : SqT K H p xs) : SqT K H' p xs := by
  rcases h with (h | ⟨o, h⟩) | h
  · exact .inl (.inl (e _ _ h))
  · exact .inl (.inr ⟨o, e _ _ h⟩)
  · exact .inr h
theorem SeqV.same {H' : Hp} (e : Same H H') (h : SeqV K H p xs) : SeqV K H' p xs := h.elim (fun h => .inl (SqL.same e h)) (fun h => .inr (SqT.same e h))
/-! ### locks -/
def kLock (d : Addr) (od : Obj) (u : HO) (Q : VK) : VK := fun v H' => H' d = some (.frz od u) ∧ Q v (upd H' d u)
theorem r_lockD {kvs : List (Key × V)} {t : TE} (h : H d = some (.dK kvs)) (q : ∀ od H1, H1 d = some (.frz od (.dK kvs)) → (∀ b o, H b = some o → b ≠ d → H1 b = some o) → (∀ b, H1 b = none → H b = none) → t σ H1 (kLock d od (.dK kvs) Q)) : tLockE t σ H Q :=
  ⟨d, .dK kvs, h, True.intro, fun od => q od _ upd_same (fun b o e n => by rw [upd_ne n]; exact e) (fun b e => by
    by_cases hb : b = d
    · rw [hb, upd_same] at e
      cases e
    · rw [upd_ne hb] at e
      exact e)⟩
theorem r_kLock {od : Obj} {u : HO} {v : V} {H0 H1 : Hp} (h0 : H0 d = some u) (h1 : ∀ b o, H0 b = some o → b ≠ d → H1 b = some o) (hd : H1 d = some (.frz od u)) (e : Same H1 H) (q : ∀ H', Same H0 H' → (∀ b o, H b = some o → b ≠ d → H' b = some o) → Q v H') : kLock d od u Q v H :=
  ⟨e _ _ hd, q _ (fun b o hb => by
    by_cases hbd : b = d
    · rw [hbd] at hb ⊢
      rw [upd_same, ← h0, hb]
    · rw [upd_ne hbd]
      exact e _ _ (h1 b o hb hbd)) (fun b o hb n => by rw [upd_ne n]; exact hb)⟩
def kLcK (g : TG) (tt : TT) (te : TE) (vs : List Nat) (σ : L2.St) (Q : VK) : VK := fun x H1 => ∃ d o, x = .ref d ∧ ((∃ kvs, H1 d = some (.frz o (.dK kvs)) ∧ LcW (Itk d o kvs) g tt te vs σ Q H1) ∨ ∃ kvs, H1 d = some (.frz o (.dT kvs)) ∧ LcW (Itkt d o kvs) g tt te vs σ Q H1)
theorem r_lcK (h : ta σ H (kLcK g tt te vs σ Q)) : tLc (iKeys ta) g tt te vs σ H Q := h
theorem r_kLcK {o : Obj} {kvs : List (Key × V)} (hd : H d = some (.frz o (.dK kvs))) (Pv : Addr → Nat → Hp → Prop) (h0 : ∀ Da H', H Da = none → Same H H' → H' Da = some (.lst []) → Pv Da 0 H') (hk : ∀ Da i H', Pv Da i H' → H' d = some (.frz o (.dK kvs)))
    (hs : ∀ Da i k v H', H Da = none → kvs[i]? = some (k, v) → Pv Da i H' → g (kV k) (wipe σ vs) H' (kLcG tt te vs σ Da Pv i)) (hf : ∀ Da H', H Da = none → Pv Da kvs.length H' → Q (.ref Da) H') : kLcK g tt te vs σ Q (.ref d) H :=
  ⟨d, o, rfl, .inl ⟨kvs, hd, lc_it kvs.length Pv h0 (fun Da i H' _ hi p => ⟨hk Da i H' p, hi⟩) (fun Da H' _ p => ⟨hk Da _ H' p, Nat.le_refl _⟩) (fun Da i x H' H2 hD _ p y => by
    obtain ⟨rfl, k, v, e, rfl⟩ := y
    exact hs Da i k v _ hD e p) hf⟩⟩
theorem r_kDGetF {a : Addr} {kvs : List (Key × V)} {o : Obj} {z : Str} {v : V} (h1 : H a = some (.frz o (.dK kvs))) (h2 : valV kvs (Sum.inr z) = some v) (q : Q v H) : kDGet Q (.ref a) (.str z) H :=
  ⟨a, v, rfl, .inl ⟨kvs, Sum.inr z, .inr ⟨o, h1⟩, rfl, h2.symm⟩, q⟩
def rLenD : List V → Hp → VK → Prop := fun xs H Q => ∃ a kvs, xs = [V.ref a] ∧ H a = some (.dK kvs) ∧ Q (.int kvs.length) H
theorem c_lenD {X : Cx} : CallR X (.builtin "len") rLenD := call_lenD
theorem r_lenD {kvs : List (Key × V)} (h : H d = some (.dK kvs)) (q : Q (.int kvs.length) H) : rLenD [.ref d] H Q := ⟨d, kvs, rfl, h, q⟩
/-! a dict made in a block, over a list -/
def kDcL (K : PySem.W.Frag) (g : TG) (tt : TT) (tk tv : TE) (vs : List Nat) (σ : L2.St) (Q : VK) : VK := fun x H1 => ∃ a, x = .ref a ∧ (∃ xs, SqL K H1 a xs) ∧ DcW (Itl K a) g tt tk tv vs σ Q H1
theorem r_dcL (h : tl σ H (kDcL K g tt tk tv vs σ Q)) : tDc (iList K tl) g tt tk tv vs σ H Q := h
theorem r_kDcL (hl : SqL K H p xs) (Pv : Addr → Nat → Hp → Prop) (h0 : ∀ Da H', H Da = none → Same H H' → H' Da = some (.dK []) → Pv Da 0 H') (hk : ∀ Da i H', Pv Da i H' → SqL K H' p xs)
    (hs : ∀ Da i x H', H Da = none → xs[i]? = some x → Pv Da i H' → g x (wipe σ vs) H' (kDcG tt tk tv vs σ Da Pv i)) (hd : ∀ Da H', H Da = none → Pv Da xs.length H' → Q (.ref Da) H') : kDcL K g tt tk tv vs σ Q (.ref p) H :=
  ⟨p, rfl, ⟨xs, hl⟩, dc_it xs.length Pv h0 (fun Da i H' _ hi p => ⟨xs, xs[i], hk Da i H' p, by simp [hi]⟩) (fun Da H' _ p => ⟨xs, hk Da _ H' p, Nat.le_refl _⟩) (fun Da i x H' H2 hD _ p y => by
    obtain ⟨rfl, y⟩ := y
    exact hs Da i x _ hD (y xs (hk Da i _ p)) p) hd⟩
end
end Wp
set_option Elab.async false
set_option linter.all false
set_option maxRecDepth 100000
set_option maxHeartbeats 4000000
/-! Lists and tuples by their kind; all of bools; slices. -/
namespace Wp
open PySem PySem.Spec PyProof.Rows L2
section
variable {K : PySem.W.Frag} {H : Hp} {Q : VK} {p : Addr} {xs : List V}
theorem SqL.ty (h : SqL K H p xs) : TyX K H (.ref p) (.type "list") := by
  rcases h with (h | ⟨o, h⟩) | ⟨o, its, n, h, hc, _⟩
  · exact .base (.lst h)
  · exact .base (.frz h)
  · exact .kList h hc
theorem SqT.ty (h : SqT K H p xs) : TyX K H (.ref p) (.type "tuple") := by
  rcases h with (h | ⟨o, h⟩) | ⟨o, its, n, h, hc, _⟩
  · exact .base (.tup h)
  · exact .fTuple h
  · exact .kTuple h hc
theorem r_isSeq {tp : Addr} (h : SeqV K H p xs) (ht : H tp = some (.tup [.ty "list", .ty "tuple"])) (q : Q (.bl true) H) : rIsiT K [.ref p, .ref tp] H Q := by
  rcases h with h | h
  · exact ⟨_, tp, _, _, [.type "list", .type "tuple"], true, rfl, ht, .cons (.ty _) (.cons (.ty _) .nil), SqL.ty h, kitAny_cons (kit_ty (r := true) (by decide +kernel)) (fun e => by cases e) (fun _ => rfl), q⟩
  · exact ⟨_, tp, _, _, [.type "list", .type "tuple"], true, rfl, ht, .cons (.ty _) (.cons (.ty _) .nil), SqT.ty h, kitAny_cons (kit_ty (r := false) (by decide +kernel)) (fun _ => kitAny_cons (kit_ty (r := true) (by decide +kernel)) (fun e => by cases e) (fun _ => rfl)) (fun e => by cases e), q⟩
theorem r_inSign {c : Nat} {z : Str} (q : Q (.bl (decide (c ∈ z.cps.toList))) H) : ∃ (c' : Nat) (z' : Str), V.str ⟨#[c]⟩ = .str ⟨#[c']⟩ ∧ V.str z = .str z' ∧ Q (.bl (decide (c' ∈ z'.cps.toList))) H := ⟨c, z, rfl, rfl, q⟩
theorem r_all {bs : List Bool} (h : SqL K H p (bs.map V.bl)) (q : Q (.bl (bs.all id)) H) : rAll K [.ref p] H Q := ⟨p, bs, rfl, h, q⟩
theorem all_rep : ∀ n, (List.replicate n true).all id = true
  | 0 => rfl
  | n + 1 => by rw [List.replicate_succ, List.all_cons, all_rep n]; rfl
theorem rep_more (n : Nat) : (List.replicate (n + 1) true).map V.bl = (List.replicate n true).map V.bl ++ [V.bl true] := by
  rw [List.replicate_succ', List.map_append]
  rfl
theorem r_isiDict {kvs : List (Key × V)} (h : H p = some (.dK kvs)) (q : Q (.bl true) H) : rIsi K [.ref p, .ty "dict"] H Q := r_isiT (.base (.dK h)) (by decide +kernel) q
end
theorem cutV_m1 (xs : List V) : cutV xs none (some (-1)) = xs.dropLast := by
  have e : HT.sIx xs.length xs.length (some (-1)) = xs.length - 1 := by
    show (if (-1 : Int) < 0 then ((-1 : Int) + (xs.length : Int)).toNat else min (-1 : Int).toNat xs.length) = _
    rw [if_pos (by decide)]
    omega
  unfold cutV
  rw [e, List.dropLast_eq_take]
  rfl
end Wp
set_option Elab.async false
set_option linter.all false
set_option maxRecDepth 100000
set_option maxHeartbeats 4000000
/-! sum, min and max of a tuple of ints. -/
namespace Wp
open PySem PySem.Spec PyProof.Rows L2
section
variable {P : Program} {w : World} {A : Around} {E : Value → Shared → Prop} {s : Shared} {t : Addr} {us : List Value} {ns : List Int}
theorem begin_tup {items : Array Value} {R : Value → Shared → Prop} (ht : s.heap.IsTuple t items)
    (k : ∀ h2 : Heap, (h2.IsTupleIter s.heap.objs.size t 0 ∧ h2.IsTuple t items) → (∀ b ∈ [s.heap.objs.size, t], b < h2.objs.size) → t ≠ s.heap.objs.size →
      (∀ b o, s.heap.get? b = some o → h2.get? b = some o ∧ b ∉ [s.heap.objs.size]) → R (.ref s.heap.objs.size) { s with heap := h2 }) : wpAny (model P w) A (pyIter (.ref t)) R E s := by
  have lt : t < s.heap.objs.size := by
    obtain ⟨_, e, _⟩ := ht
    exact Heap.lt_size e
  refine wpAny_pyIter_tuple ht (k _ ⟨⟨_, Heap.get?_push_size _ rfl, rfl, rfl⟩, Heap.IsTuple.push ht _⟩ (fun b hb => ?_) (Nat.ne_of_lt lt) fun b o e => ⟨Heap.get?_push_of_some _ e, fun hm => ?_⟩)
  · rw [Heap.size_push]
    rcases List.mem_cons.mp hb with hb | hb
    · rw [hb]
      exact Nat.lt_succ_self _
    · rw [List.mem_singleton.mp hb]
      exact Nat.lt_succ_of_lt lt
  · have h1 : b < s.heap.objs.size := Heap.lt_size e
    have h2 : b = s.heap.objs.size := List.mem_singleton.mp hm
    rw [h2] at h1
    exact Nat.lt_irrefl _ h1
theorem tup_sum {R : Value → Shared → Prop} (hh : A.handled = none) (ht : s.heap.IsTuple t us.toArray) (hi : IntsAre us ns)
    (k : ∀ h' tk t', (∀ b o, s.heap.get? b = some o → h'.get? b = some o) → R (.int ns.sum t') { s with heap := h', toks := tk }) : wpAny (model P w) A (call (.builtin "sum") [.ref t]) R E s := by
  obtain ⟨xs, ex⟩ := hi.allInts.items
  have en : numsOf (intItems xs).toList = ns := by
    rw [← ex]
    exact hi.numsOf
  rw [nums_intItems] at en
  rw [ex] at ht
  refine call_sum_walkG (begin_tup ht fun h2 st fp ne old => ?_)
  refine ⟨_, _, _, _, _, _, numAt xs, rfl, Walks.tuple (A := A.in1) hh _ t ne (intItems xs), st, fp, (fun _ _ => intItems_at), fun h' tk t' hk => ?_⟩
  have z := k h' tk t' fun b o e => hk b o (old b o e).2 (old b o e).1
  rw [preSum_eq, List.take_of_length_le (by simp [intItems]), en]
  exact z
theorem tup_min {R : Value → Shared → Prop} (hh : A.handled = none) (ht : s.heap.IsTuple t us.toArray) (hi : IntsAre us ns) (hne : 0 < ns.length)
    (k : ∀ h' tk m t', (∀ b o, s.heap.get? b = some o → h'.get? b = some o) → m ∈ ns → (∀ a, a ∈ ns → m ≤ a) → R (.int m t') { s with heap := h', toks := tk }) : wpAny (model P w) A (call (.builtin "min") [.ref t]) R E s := by
  obtain ⟨xs, ex⟩ := hi.allInts.items
  have en : numsOf (intItems xs).toList = ns := by
    rw [← ex]
    exact hi.numsOf
  rw [nums_intItems] at en
  subst en
  rw [ex] at ht
  have pos : 0 < xs.size := by simpa using hne
  refine call_min_walk (begin_tup ht fun h2 st fp ne old => ?_)
  refine ⟨_, _, _, _, _, _, _, rfl, Walks.tuple (A := A.in1) hh _ t ne (intItems xs), st, fp, by simpa [intItems] using pos, CmpOf.ints_lt (numAt xs) (fun _ _ => intItems_at), fun v h' tk hP hk => ?_⟩
  obtain ⟨t', rfl⟩ := intItems_at (by simpa [intItems] using hP)
  obtain ⟨b1, b2⟩ := argBest_lt (numAt xs) (xs.size - 1)
  refine k h' tk _ t' (fun b o e => hk b o (old b o e).2 (old b o e).1) ?_ fun a ha => ?_
  · rw [numAt_eq]
    refine PySem.getD_mem ?_
    rw [List.length_map, Array.length_toList]
    omega
  · obtain ⟨j, hj, rfl⟩ := mem_getD ha
    rw [List.length_map, Array.length_toList] at hj
    rw [← numAt_eq]
    exact b2 j (by omega)
end
section
variable {X : Cx} {K : PySem.W.Frag}
def rSumT (K : PySem.W.Frag) : List V → Hp → VK → Prop := fun vs H Q => ∃ (a : Addr) (ns : List Int), vs = [V.ref a] ∧ SqT K H a (ns.map V.int) ∧ Q (.int ns.sum) H
def rMinT (K : PySem.W.Frag) : List V → Hp → VK → Prop := fun vs H Q => ∃ (a : Addr) (ns : List Int), vs = [V.ref a] ∧ SqT K H a (ns.map V.int) ∧ 0 < ns.length ∧ ∀ m, m ∈ ns → (∀ y, y ∈ ns → m ≤ y) → Q (.int m) H
theorem c_sumT (h : X.K = K) (hc : X.calm = true) : CallR X (.builtin "sum") (rSumT K) := by
  subst h
  rintro pins s σ H vs us Q I r ⟨a, ns, rfl, hs, q⟩
  obtain ⟨its, rv, hl, _⟩ := I.tuple hs
  rw [Vals.ref1 r]
  exact tup_sum (I.ok.hd hc) hl rv.ints fun h' tk t' hk => ⟨.int _, H, I.kept hk, ⟨_, rfl⟩, q⟩
theorem c_minT (h : X.K = K) (hc : X.calm = true) : CallR X (.builtin "min") (rMinT K) := by
  subst h
  rintro pins s σ H vs us Q I r ⟨a, ns, rfl, hs, hne, q⟩
  obtain ⟨its, rv, hl, _⟩ := I.tuple hs
  rw [Vals.ref1 r]
  exact tup_min (I.ok.hd hc) hl rv.ints hne fun h' tk m t' hk h1 h2 => ⟨.int _, H, I.kept hk, ⟨_, rfl⟩, q m h1 h2⟩
end
end Wp
set_option Elab.async false
set_option linter.all false
set_option maxRecDepth 100000
set_option maxHeartbeats 4000000
/-! Lists of texts: what is in them. -/
namespace Wp
open PySem PySem.Spec PyProof.Rows L2
section
variable {X : Cx} {K : PySem.W.Frag} {H : Hp} {Q : VK} {p : Addr} {z : Str}
theorem flat_strs : ∀ xs : List Str, (xs.map V.str).all flatV = true
  | [] => rfl
  | _ :: r => by rw [List.map_cons, List.all_cons, flat_strs r]; rfl
theorem in_strs (x : Str) : ∀ xs : List Str, inV (.str x) (xs.map V.str) = decide (x ∈ xs)
  | [] => by simp [inV]
  | y :: r => by
    have ih := in_strs x r
    unfold inV at ih ⊢
    rw [List.map_cons, List.any_cons, ih]
    have e : eqV (.str y) (.str x) = decide (y = x) := rfl
    rw [e]
    by_cases h : y = x
    · simp [h]
    · have h' : ¬ x = y := fun z => h z.symm
      simp [h, h']
theorem r_notInS {x : Str} {xs : List Str} (h : SqL K H p (xs.map V.str)) (q : Q (.bl (!decide (x ∈ xs))) H) : rIn K true (.str x) (.ref p) H Q :=
  ⟨p, xs.map V.str, rfl, .inl h, rfl, flat_strs xs, by rw [in_strs]; exact q⟩
theorem r_inS {x : Str} {xs : List Str} (h : SqL K H p (xs.map V.str)) (q : Q (.bl (decide (x ∈ xs))) H) : rIn K false (.str x) (.ref p) H Q :=
  ⟨p, xs.map V.str, rfl, .inl h, rfl, flat_strs xs, by rw [in_strs]; exact q⟩
theorem strs_get {xs : List Str} {i : Nat} {x : V} (h : (xs.map V.str)[i]? = some x) : ∃ s, x = .str s ∧ xs[i]? = some s := by
  rw [List.getElem?_map] at h
  obtain ⟨s, hs, rfl⟩ := Option.map_eq_some_iff.mp h
  exact ⟨s, rfl, hs⟩
end
end Wp
set_option Elab.async false
set_option linter.all false
set_option maxRecDepth 100000
set_option maxHeartbeats 4000000
/-! dict(zip(t, u)) of two tuples. -/
namespace Wp
open PySem PySem.Spec PyProof.Rows L2
open PySem.Sem (wp)
/-- an iterator over the items xs: S k says that k of them are taken -/
structure Nx (prog : Program) (w : World) (it l : Addr) (xs : Array Value) (S : Nat → Heap → Prop) : Prop where
  step : ∀ {A : Around} {E : Value → Shared → Prop} {s : Shared} {k : Nat} {x : Value} {Q : Value → Shared → Prop}, S k s.heap → xs[k]? = some x →
    (∀ g, S (k + 1) g → Heap.SameBut it s.heap g → Q x { s with heap := g }) → wpAny (model prog w) A (Builtin.SmallTypes.nextOf (.ref it)) Q E s
  stop : ∀ {A : Around} {E : Value → Shared → Prop} {s : Shared} {k : Nat} {Q : Value → Shared → Prop}, A.handled = none → S k s.heap → xs[k]? = none →
    (∀ g e, Heap.ExtBut it s.heap g → (∃ o, g.get? e = some o ∧ o.cls = .type "StopIteration") → E (.ref e) { s with heap := g }) → wpAny (model prog w) A (Builtin.SmallTypes.nextOf (.ref it)) Q E s
  keep : ∀ {k : Nat} {h g : Heap}, S k h → (∀ b, b = it ∨ b = l → ∀ o, h.get? b = some o → g.get? b = some o) → S k g
/-- of a tuple -/
def St (it l : Addr) (xs : Array Value) (k : Nat) (h : Heap) : Prop := h.IsTupleIter it l k ∧ h.IsTuple l xs
theorem nx_tup (prog : Program) (w : World) {it l : Addr} {xs : Array Value} (ne : l ≠ it) : Nx prog w it l xs (St it l xs) where
  step := fun ⟨a, b⟩ hx q => RZ.nextOf_tuple_item a b hx fun g a' sb => q g ⟨a', b.at fun o e => sb.extBut _ _ ne e⟩ sb
  stop := fun hh ⟨a, b⟩ hx q => RZ.nextOf_tuple_end hh a b hx q
  keep := fun ⟨a, b⟩ k => ⟨a.at fun o e => k _ (.inl rfl) o e, b.at fun o e => k _ (.inr rfl) o e⟩
section
variable {prog : Program} {w : World} {A : Around} {E : Value → Shared → Prop} {s : Shared} {z TI TO T i1 i2 l1 l2 : Addr} {f : Bool} {ob : Obj} {k : Nat} {xs ys : Array Value} {x y : Value} {S1 S2 : Nat → Heap → Prop}
/-- a zip whose pair is still held hands out a new one -/
theorem held_next {Q : Value → Shared → Prop} (N1 : Nx prog w i1 l1 xs S1) (N2 : Nx prog w i2 l2 ys S2) (D : ZipApart z TI TO i1 i2 l1 l2) (hz : IsZipHeld s.heap z TI TO T f) (hT : s.heap.get? T = some ob)
    (hp : IsPair s.heap TI (.ref i1) (.ref i2)) (c1 : S1 k s.heap) (c2 : S2 k s.heap) (ex : xs[k]? = some x) (ey : ys[k]? = some y)
    (q : ∀ g, IsZipHeld g z TI TO T true → S1 (k + 1) g → S2 (k + 1) g → IsPair g s.heap.objs.size x y → (∀ c o, c ≠ z → c ≠ i1 → c ≠ i2 → s.heap.get? c = some o → g.get? c = some o) → Q (.ref s.heap.objs.size) { s with heap := g }) :
    wpAny (model prog w) A (Builtin.«zip.__next__» ⟨[.ref z], []⟩) (fun r t => ∃ v, r = .done (.ret v) ∧ Q v t) E s := by
  show wpAny (model prog w) A (field (.ref z) 2 >>= _) _ E s
  refine wpAny_bind (wpAny_field hz rfl (x := .bool false) rfl ?_)
  show wpAny (model prog w) A (field (.ref z) 3 >>= _) _ E s
  refine wpAny_bind (wpAny_field hz rfl (x := .ref TI) rfl (wpAny_bind (wpAny_seqItems hp rfl ?_)))
  show wpAny (model prog w) A (Builtin.SmallTypes.ownedTupleIsFree (.ref z) >>= _) _ E s
  refine wpAny_bind (wpAny_tupleHeld_zip hz hT fun ga za sa => ?_)
  simp only [Bool.false_eq_true, if_false]
  refine wpAny_bind ?_
  rw [← Array.forIn_toList]
  simp only [List.forIn_cons, List.forIn_nil]
  have c1a : S1 k ga := N1.keep c1 fun b hb o e => sa.extBut _ _ (by rcases hb with rfl | rfl; exact D.i1z; exact D.l1z) e
  have c2a : S2 k ga := N2.keep c2 fun b hb o e => sa.extBut _ _ (by rcases hb with rfl | rfl; exact D.i2z; exact D.l2z) e
  refine wpAny_bind (wpAny_bind (wpAny_holding ?_))
  show wpAny (model prog w) A (Builtin.SmallTypes.nextOf (.ref i1) >>= _) _ E { s with heap := ga }
  refine wpAny_bind (N1.step (s := { s with heap := ga }) c1a ex fun gb c1b sb => wpAny_pure (wpAny_pure ?_))
  have c2b : S2 k gb := N2.keep c2a fun b hb o e => sb.extBut _ _ (by rcases hb with rfl | rfl; exact D.i12.symm; exact D.l2i1) e
  refine wpAny_bind (wpAny_bind (wpAny_holding ?_))
  show wpAny (model prog w) A (Builtin.SmallTypes.nextOf (.ref i2) >>= _) _ E { s with heap := gb }
  refine wpAny_bind (N2.step (s := { s with heap := gb }) c2b ey fun gc c2c sc => wpAny_pure (wpAny_pure (wpAny_pure ?_)))
  have c1c : S1 (k + 1) gc := N1.keep c1b fun b hb o e => sc.extBut _ _ (by rcases hb with rfl | rfl; exact D.i12; exact D.l1i2) e
  show wpAny (model prog w) A (newTuple [x, y] >>= _) _ E { s with heap := gc }
  refine wpAny_bind (wpAny_newTuple (wpAny_pure ⟨_, rfl, ?_⟩))
  show Q (.ref gc.objs.size) _
  have sz : gc.objs.size = s.heap.objs.size := sc.1.trans (sb.1.trans sa.1)
  have zc : IsZipHeld gc z TI TO T true := sc.extBut _ _ D.i2z.symm (sb.extBut _ _ D.i1z.symm za)
  have up : ∀ c o, gc.get? c = some o → (gc.push { cls := .type "tuple", data := .seq #[x, y] }).get? c = some o := fun c o e => Heap.get?_push_of_some _ e
  have pr : IsPair (gc.push { cls := .type "tuple", data := .seq #[x, y] }) gc.objs.size x y := Heap.get?_push_size _ rfl
  have fin := q (gc.push { cls := .type "tuple", data := .seq #[x, y] }) (up _ _ zc) (N1.keep c1c fun b _ o e => up b o e) (N2.keep c2c fun b _ o e => up b o e) (by rw [← sz]; exact pr)
    fun c o n1 n2 n3 e => up _ _ (sc.extBut _ _ n3 (sb.extBut _ _ n2 (sa.extBut _ _ n1 e)))
  rw [← sz] at fin
  exact fin
/-- .. or ends -/
theorem held_end {Q : PySem.Fin → Shared → Prop} (hh : A.handled = none) (N1 : Nx prog w i1 l1 xs S1) (N2 : Nx prog w i2 l2 ys S2) (D : ZipApart z TI TO i1 i2 l1 l2) (hz : IsZipHeld s.heap z TI TO T f) (hT : s.heap.get? T = some ob)
    (hp : IsPair s.heap TI (.ref i1) (.ref i2)) (c1 : S1 k s.heap) (ex : xs[k]? = none)
    (q : ∀ g e, (∀ c o, c ≠ z → c ≠ i1 → c ≠ i2 → s.heap.get? c = some o → g.get? c = some o) → (∃ o, g.get? e = some o ∧ o.cls = .type "StopIteration") → E (.ref e) { s with heap := g }) :
    wpAny (model prog w) A (Builtin.«zip.__next__» ⟨[.ref z], []⟩) Q E s := by
  show wpAny (model prog w) A (field (.ref z) 2 >>= _) _ E s
  refine wpAny_bind (wpAny_field hz rfl (x := .bool false) rfl ?_)
  show wpAny (model prog w) A (field (.ref z) 3 >>= _) _ E s
  refine wpAny_bind (wpAny_field hz rfl (x := .ref TI) rfl (wpAny_bind (wpAny_seqItems hp rfl ?_)))
  show wpAny (model prog w) A (Builtin.SmallTypes.ownedTupleIsFree (.ref z) >>= _) _ E s
  refine wpAny_bind (wpAny_tupleHeld_zip hz hT fun ga za sa => ?_)
  simp only [Bool.false_eq_true, if_false]
  refine wpAny_bind ?_
  rw [← Array.forIn_toList]
  simp only [List.forIn_cons, List.forIn_nil]
  have c1a : S1 k ga := N1.keep c1 fun b hb o e => sa.extBut _ _ (by rcases hb with rfl | rfl; exact D.i1z; exact D.l1z) e
  refine wpAny_bind (wpAny_bind (wpAny_holding ?_))
  show wpAny (model prog w) A (Builtin.SmallTypes.nextOf (.ref i1) >>= _) _ E { s with heap := ga }
  exact wpAny_bind (N1.stop (s := { s with heap := ga }) hh c1a ex fun gb e sb he => q gb e (fun c o n1 n2 _ h => sb _ _ n2 (sa.extBut _ _ n1 h)) he)
theorem held_item {Q : Option Value → Shared → Prop} (N1 : Nx prog w i1 l1 xs S1) (N2 : Nx prog w i2 l2 ys S2) (D : ZipApart z TI TO i1 i2 l1 l2) (hz : IsZipHeld s.heap z TI TO T f) (hT : s.heap.get? T = some ob)
    (hp : IsPair s.heap TI (.ref i1) (.ref i2)) (c1 : S1 k s.heap) (c2 : S2 k s.heap) (ex : xs[k]? = some x) (ey : ys[k]? = some y)
    (q : ∀ g, IsZipHeld g z TI TO T true → S1 (k + 1) g → S2 (k + 1) g → IsPair g s.heap.objs.size x y → (∀ c o, c ≠ z → c ≠ i1 → c ≠ i2 → s.heap.get? c = some o → g.get? c = some o) → Q (some (.ref s.heap.objs.size)) { s with heap := g }) :
    wpAny (model prog w) A (pyNext (.ref z)) Q E s := by
  have ty : s.TypeIs (.ref z) "zip" := ⟨_, hz, rfl⟩
  unfold pyNext
  refine wpAny_bind (wpAny_attempt (wpAny_callSpecial?_slot (name := Str.ofString "__next__") ty F.slot_zip_next (wpAny_call_entry F.slot_zip_next ty F.entry_zip_next ?_ (F.args_zip_next_1 _))))
  exact held_next N1 N2 D hz hT hp c1 c2 ex ey fun g p1 p2 p3 p4 p5 => wpAny_pure (q g p1 p2 p3 p4 p5)
theorem held_none {Q : Option Value → Shared → Prop} (hh : A.handled = none) (N1 : Nx prog w i1 l1 xs S1) (N2 : Nx prog w i2 l2 ys S2) (D : ZipApart z TI TO i1 i2 l1 l2) (hz : IsZipHeld s.heap z TI TO T f) (hT : s.heap.get? T = some ob)
    (hp : IsPair s.heap TI (.ref i1) (.ref i2)) (c1 : S1 k s.heap) (ex : xs[k]? = none)
    (q : ∀ g, (∀ c o, c ≠ z → c ≠ i1 → c ≠ i2 → s.heap.get? c = some o → g.get? c = some o) → Q none { s with heap := g }) : wpAny (model prog w) A (pyNext (.ref z)) Q E s := by
  have ty : s.TypeIs (.ref z) "zip" := ⟨_, hz, rfl⟩
  unfold pyNext
  refine wpAny_bind (wpAny_attempt (wpAny_callSpecial?_slot (name := Str.ofString "__next__") ty F.slot_zip_next (wpAny_call_entry F.slot_zip_next ty F.entry_zip_next (held_end hh N1 N2 D hz hT hp c1 ex fun g e kp he => ?_) (F.args_zip_next_1 _))))
  obtain ⟨o, ho, hc⟩ := he
  exact wpAny_bind (wpAny_isInstance (T := "StopIteration") (b := true) ⟨o, ho, hc⟩ isSubtype_stop (wpAny_pure (q _ kp)))
/-- what stands while the pairs of two tuples of one length are drawn -/
def ZSt (z TI TO i1 i2 l1 l2 d : Addr) (xs ys : Array Value) (i : Nat) (h : Heap) : Prop := IsPair h TI (.ref i1) (.ref i2) ∧ St i1 l1 xs i h ∧ St i2 l2 ys i h ∧
  ((IsZip h z TI TO .none ∧ ∃ a b, IsPair h TO a b) ∨ ∃ T f ob, IsZipHeld h z TI TO T f ∧ h.get? T = some ob ∧ T ≠ z ∧ T ≠ i1 ∧ T ≠ i2 ∧ T ≠ d)
theorem zip_src {d : Addr} (hh : A.handled = none) (D : ZipApart z TI TO i1 i2 l1 l2) (hl : xs.size = ys.size) (nd : d ≠ z ∧ d ≠ TI ∧ d ≠ TO ∧ d ≠ i1 ∧ d ≠ i2 ∧ d ≠ l1 ∧ d ≠ l2) :
    PairSrc prog w A z d [z, TO, i1, i2] xs.size (fun i a b => xs[i]? = some a ∧ ys[i]? = some b) (ZSt z TI TO i1 i2 l1 l2 d xs ys) := by
  obtain ⟨dz, dTI, dTO, di1, di2, dl1, dl2⟩ := nd
  have M1 := nx_tup prog w (it := i1) (l := l1) (xs := xs) D.l1i1
  have M2 := nx_tup prog w (it := i2) (l := l2) (xs := ys) D.l2i2
  refine ⟨by simp [dz, dTO, di1, di2], ?_, ?_, ?_⟩
  · rintro i h g ⟨hp, c1, c2, hz⟩ kp
    refine ⟨kp _ _ dTI.symm hp, M1.keep c1 fun b hb o e => kp _ _ (by rcases hb with rfl | rfl; exact di1.symm; exact dl1.symm) e, M2.keep c2 fun b hb o e => kp _ _ (by rcases hb with rfl | rfl; exact di2.symm; exact dl2.symm) e, ?_⟩
    rcases hz with ⟨hz, a, b, hTO⟩ | ⟨T, f, ob, hz, hT, r1, r2, r3, r4⟩
    · exact .inl ⟨kp _ _ dz.symm hz, a, b, kp _ _ dTO.symm hTO⟩
    · exact .inr ⟨T, f, ob, kp _ _ dz.symm hz, kp _ _ r4 hT, r1, r2, r3, r4⟩
  · rintro i s Q E hi ⟨hp, c1, c2, hz⟩ hds q
    have ex := Array.getElem?_eq_getElem hi
    have ey := Array.getElem?_eq_getElem (hl ▸ hi : i < ys.size)
    have new : ∀ {c o}, s.heap.get? c = some o → s.heap.objs.size ≠ c := fun e => Nat.ne_of_gt (Heap.lt_size e)
    have n1 : s.heap.objs.size ≠ i1 := let ⟨_, e, _⟩ := c1.1; new e
    have n2 : s.heap.objs.size ≠ i2 := let ⟨_, e, _⟩ := c2.1; new e
    have out : ∀ {c : Addr}, c ∉ [z, TO, i1, i2] → c ≠ z ∧ c ≠ TO ∧ c ≠ i1 ∧ c ≠ i2 := fun h => by simpa using h
    rcases hz with ⟨hz, a, b, hTO⟩ | ⟨T, f, ob, hz, hT, r1, r2, r3, r4⟩
    · refine RZ.pyNext_zipT_item D hz hp hTO c1.1 c2.1 c1.2 c2.2 ex ey fun g z1 z2 z3 z4 z5 z6 kp => ?_
      refine q _ _ _ g s.toks ⟨ex, ey⟩ (.inl ⟨_, z5, rfl, _, rfl⟩) ⟨kp _ _ D.TIz D.TITO D.TIi1 D.TIi2 hp, ⟨z3, c1.2.at fun o e => kp _ _ D.l1z D.l1TO D.l1i1 D.l1i2 e⟩, ⟨z4, c2.2.at fun o e => kp _ _ D.l2z D.l2TO D.l2i1 D.l2i2 e⟩, .inr ⟨_, false, _, z1, z5, new hz, n1, n2, Nat.ne_of_gt hds⟩⟩ fun c o hc e => ?_
      obtain ⟨o1, o2, o3, o4⟩ := out hc
      exact kp _ _ o1 o2 o3 o4 e
    · refine held_item M1 M2 D hz hT hp c1 c2 ex ey fun g z1 z2 z3 z4 kp => ?_
      refine q _ _ _ g s.toks ⟨ex, ey⟩ (.inl ⟨_, z4, rfl, _, rfl⟩) ⟨kp _ _ D.TIz D.TIi1 D.TIi2 hp, z2, z3, .inr ⟨T, true, ob, z1, kp _ _ r1 r2 r3 hT, r1, r2, r3, r4⟩⟩ fun c o hc e => ?_
      obtain ⟨o1, o2, o3, o4⟩ := out hc
      exact kp _ _ o1 o3 o4 e
  · rintro s Q E ⟨hp, c1, c2, hz⟩ q
    have ex : xs[xs.size]? = none := Array.getElem?_eq_none (Nat.le_refl _)
    have out : ∀ {c : Addr}, c ∉ [z, TO, i1, i2] → c ≠ z ∧ c ≠ TO ∧ c ≠ i1 ∧ c ≠ i2 := fun h => by simpa using h
    rcases hz with ⟨hz, a, b, hTO⟩ | ⟨T, f, ob, hz, hT, r1, r2, r3, r4⟩
    · refine RZ.pyNext_zipT_end hh D hz hp hTO c1.1 c2.1 c1.2 c2.2 (.inl ex) fun g kp => q g s.toks fun c o hc e => ?_
      obtain ⟨o1, o2, o3, o4⟩ := out hc
      exact kp _ _ o1 o2 o3 o4 e
    · refine held_none hh M1 M2 D hz hT hp c1 ex fun g kp => q g s.toks fun c o hc e => ?_
      obtain ⟨o1, o2, o3, o4⟩ := out hc
      exact kp _ _ o1 o3 o4 e
theorem zip_arg (D : ZipApart z TI TO i1 i2 l1 l2) (hl : xs.size = ys.size) : PairArg prog w "zip" z [z, TI, TO, i1, i2, l1, l2] [z, TO, i1, i2] xs.size (fun i a b => xs[i]? = some a ∧ ys[i]? = some b)
    (fun h => IsZip h z TI TO .none ∧ IsPair h TI (.ref i1) (.ref i2) ∧ (∃ a b, IsPair h TO a b) ∧ St i1 l1 xs 0 h ∧ St i2 l2 ys 0 h) where
  type := fun s ok => ⟨_, ok.1, rfl⟩
  notDict := by decide
  keep := fun h g ⟨p1, p2, ⟨a, b, p3⟩, p4, p5⟩ kp => ⟨kp _ _ p1, kp _ _ p2, ⟨a, b, kp _ _ p3⟩, (nx_tup prog w D.l1i1).keep p4 fun b _ o e => kp b o e, (nx_tup prog w D.l2i2).keep p5 fun b _ o e => kp b o e⟩
  there := fun h ⟨p1, p2, ⟨a, c, p3⟩, ⟨⟨_, q1, _⟩, ⟨_, q2, _⟩⟩, ⟨⟨_, q3, _⟩, ⟨_, q4, _⟩⟩⟩ b hb => by
    simp only [List.mem_cons, List.not_mem_nil, or_false] at hb
    rcases hb with rfl | rfl | rfl | rfl | rfl | rfl | rfl
    · exact ⟨_, p1⟩
    · exact ⟨_, p2⟩
    · exact ⟨_, p3⟩
    · exact ⟨_, q1⟩
    · exact ⟨_, q3⟩
    · exact ⟨_, q2⟩
    · exact ⟨_, q4⟩
  sub := fun b hb => by
    simp only [List.mem_cons, List.not_mem_nil, or_false] at hb ⊢
    rcases hb with rfl | rfl | rfl | rfl <;> simp
  noKeys := fun A s Q E hA ok q => getAttrOr_miss_zip ok.1 rfl rfl rfl zip_no_keys (by decide +kernel) hA q
  iter := fun A s d Q E hA ⟨p1, p2, p3, p4, p5⟩ hd nd q => by
    simp only [List.mem_cons, List.not_mem_nil, or_false, not_or] at nd
    exact wpAny_pyIter_zip p1 (q z _ _ s.heap s.toks (zip_src hA D hl nd) ⟨p2, p4, p5, .inl ⟨p1, p3⟩⟩ (fun _ _ e => e) fun b hb => .inl hb)
end
/-- dict(zip(t, u)) -/
def kDZ (K : PySem.W.Frag) (Q : VK) : List V → Hp → Prop := fun vs H1 => ∃ (a b : Addr) (ks : List Key) (ys : List V), vs = [.ref a, .ref b] ∧ SqT K H1 a (ks.map kV) ∧ SqT K H1 b ys ∧ ks.length = ys.length ∧ ks.length ≤ 1000 ∧
  ∀ q, H1 q = none → Q (.ref q) (upd H1 q (.dK (mergeK [] (ks.zip ys))))
def tDZ (K : PySem.W.Frag) (ta : TA) : TE := fun σ H Q => ta σ H (kDZ K Q)
theorem keys_is : ∀ {ks : List Key} {us : List Value}, Vals (ks.map kV) us → ∀ {i : Nat} {u : Value}, us[i]? = some u → ∃ k, ks[i]? = some k ∧ keyIs k u = true
  | [], _, .nil, i, u, h => by simp at h
  | k :: ks, _, .cons r rr, 0, u, h => by
    have e := Option.some.inj h
    subst e
    refine ⟨k, rfl, ?_⟩
    cases k with
    | inl i =>
      obtain ⟨t, rfl⟩ := (show ∃ t, _ = Value.int i t from r)
      exact keyIs_int i t
    | inr x =>
      obtain ⟨t, rfl⟩ := (show ∃ t, _ = Value.str x t from r)
      exact keyIs_str x t
  | _ :: ks, _, .cons r rr, i + 1, u, h => keys_is (ks := ks) rr (i := i) h
theorem kv_zip : ∀ {ks : List Key} {ys : List V} {us : List Value}, Vals ys us → KV (ks.zip ys) (ks.zip us)
  | [], _, _, _ => .nil
  | _ :: _, _, _, .nil => .nil
  | k :: ks, _, _, .cons r rr => .cons ⟨rfl, r⟩ (kv_zip rr)
section
variable {X : Cx} {K : PySem.W.Frag} {a b : Expr} {ta : TA} {p p2 pos pos2 : Pos}
theorem pe_dictZip (hK : X.K = K) (hc : X.calm = true) (hd : Gl X "dict") (md : X.mg "dict" = none) (hz : Gl X "zip") (mz : X.mg "zip" = none) (ha : PA X [a, b] ta)
    (hs : starEach [a, b] X.env = (false, eval a X.env) :: starEach [b] X.env := by rfl) (hpl : (backTo pos2 (starEach [b] X.env)).any (·.1) = false := by rfl)
    (na : starEach [.Call (.Name "zip" p2) [a, b] [] pos2] X.env = (false, eval (.Call (.Name "zip" p2) [a, b] [] pos2) X.env) :: starEach [] X.env := by rfl) :
    PE X (.Call (.Name "dict" p) [.Call (.Name "zip" p2) [a, b] [] pos2] [] pos) (tDZ K ta) := by
  subst hK
  refine ⟨fun pins s σ H Q I h => ?_⟩
  have inner : wpAny (model X.prog X.w) X.A (eval (.Call (.Name "zip" p2) [a, b] [] pos2) X.env)
      (fun v t => ∃ (s1 : Shared) (H1 : Hp) (g : Heap) (l1 l2 : Addr) (ks : List Key) (ys : List V) (xa ya : List Value), Inv X pins σ H1 s1 ∧ t = { s1 with heap := g } ∧ v = .ref (s1.heap.objs.size + 4) ∧
        Vals (ks.map kV) xa ∧ Vals ys ya ∧ ks.length = ys.length ∧ ks.length ≤ 1000 ∧ (∀ q, H1 q = none → Q (.ref q) (upd H1 q (.dK (mergeK [] (ks.zip ys))))) ∧ l1 < s1.heap.objs.size ∧ l2 < s1.heap.objs.size ∧
        (∀ c o, s1.heap.get? c = some o → g.get? c = some o) ∧ g.objs.size = s1.heap.objs.size + 5 ∧ IsZip g (s1.heap.objs.size + 4) (s1.heap.objs.size + 2) (s1.heap.objs.size + 3) .none ∧
        IsPair g (s1.heap.objs.size + 2) (.ref s1.heap.objs.size) (.ref (s1.heap.objs.size + 1)) ∧ IsPair g (s1.heap.objs.size + 3) .none .none ∧
        St s1.heap.objs.size l1 xa.toArray 0 g ∧ St (s1.heap.objs.size + 1) l2 ya.toArray 0 g) X.xe s := by
    refine Call_ (ld_blt I hz mz PyProof.Rows.boot_zip (PyProof.Rows.callWith_type1 (thn (ha.run pos2 pins s σ H _ I h) ?_) hs hpl))
    rintro us s1 ⟨vs, H1, I1, r1, l1, l2, ks, ys, ev, t1, t2, el, e1000, q⟩
    subst ev
    match us, r1 with
    | _, .cons r (.cons r' .nil) =>
      obtain rfl := (show _ = Value.ref l1 from r)
      obtain rfl := (show _ = Value.ref l2 from r')
      obtain ⟨xa, rv, p1, _⟩ := I1.tuple t1
      obtain ⟨ya, rv2, p2, _⟩ := I1.tuple t2
      have q1 : s1.heap.IsTuple l1 xa.toArray := p1
      have q2 : s1.heap.IsTuple l2 ya.toArray := p2
      obtain ⟨o1, ho1, _⟩ := id q1
      obtain ⟨o2, ho2, _⟩ := id q2
      refine RZ.call_zipT q1 q2 fun g z1 z2 z3 z4 z5 z6 kp => ?_
      exact ⟨s1, H1, g, l1, l2, ks, ys, xa, ya, I1, rfl, rfl, rv, rv2, el, e1000, q, Heap.lt_size ho1, Heap.lt_size ho2, kp, z6, z1, z2, z3, ⟨z4, q1.at fun o e => kp _ _ e⟩, ⟨z5, q2.at fun o e => kp _ _ e⟩⟩
  refine Call_ (ld_blt I hd md PyProof.Rows.boot_dict (PyProof.Rows.callWith_type1 (args_cons (thn inner ?_) na) na))
  rintro v t ⟨s1, H1, g, l1, l2, ks, ys, xa, ya, I1, rfl, rfl, rv, rv2, el, e1000, q, lt1, lt2, kp, sz, z1, z2, z3, c1, c2⟩
  refine args_nil ?_
  have lx : xa.length = ks.length := by rw [← rv.length, List.length_map]
  have ly : ya.length = ks.length := by rw [← rv2.length, el]
  have D := PySem.W.ktu_apart s1.heap.objs.size l1 l2 lt1 lt2
  refine PySem.call_dict_pairs (knd := mixKind X.prog X.w) (kvs := ks.zip ya) (s := { s1 with heap := g }) (zip_arg D (by simp [lx, ly])) (I1.ok.hd hc) ⟨z1, z2, ⟨_, _, z3⟩, c1, c2⟩ ⟨?_, ?_⟩ (by simp [lx]; exact sz5 (by omega)) fun g2 tk dct kp2 => ?_
  · simp [lx, ly]
  · rintro i key v ⟨e1, e2⟩
    rw [List.getElem?_toArray] at e1 e2
    obtain ⟨k, hk, kis⟩ := keys_is rv e1
    exact ⟨k, by rw [List.getElem?_zip_eq_some]; exact ⟨hk, e2⟩, kis⟩
  · have sg : g.objs.size = s1.heap.objs.size + 5 := sz
    have big : s1.heap.objs.size ≤ g.objs.size := by omega
    have hm : (g.objs.size == sysModules) = false := beq_eq_false_iff_ne.mpr (Nat.ne_of_gt (Nat.lt_of_lt_of_le I1.big big))
    have hlen : (mergeK [] (ks.zip ys)).length ≤ sizeLine := by
      refine Nat.le_trans (length_mergeK _ []) ?_
      rw [List.length_nil, List.length_zip]
      exact sz5 (by omega)
    have kpt : ∀ c o, s1.heap.get? c = some o → g2.get? c = some o := fun c o e => by
      have hlt := Heap.lt_size e
      refine kp2 c o (fun hm => ?_) (kp _ _ e)
      simp only [List.mem_cons, List.not_mem_nil, or_false] at hm
      rcases hm with z | z | z | z
      · exact absurd (z ▸ hlt) (Nat.not_lt.mpr (Nat.le_add_right _ _))
      · exact absurd (z ▸ hlt) (Nat.not_lt.mpr (Nat.le_add_right _ _))
      · exact absurd (z ▸ hlt) (Nat.lt_irrefl _)
      · exact absurd (z ▸ hlt) (Nat.not_lt.mpr (Nat.le_add_right _ _))
    exact ⟨.ref g.objs.size, upd H1 g.objs.size (.dK (mergeK [] (ks.zip ys))), I1.laid (t' := tk) kpt big (show ObjOk X.prog X.w _ _ _ (.dK (mergeK [] (ks.zip ys))) from ⟨hlen, hm, merged [] (ks.zip ya), KV.merge (kv_zip rv2) .nil, dct⟩), rfl, q _ (I1.hok.fresh big)⟩
theorem r_dz {σ : L2.St} {H : Hp} {Q : VK} (q : ta σ H (kDZ K Q)) : tDZ K ta σ H Q := q
theorem r_kDZ {H : Hp} {Q : VK} {a b : Addr} {ks : List Key} {ys : List V} (h1 : SqT K H a (ks.map kV)) (h2 : SqT K H b ys) (hl : ks.length = ys.length) (hz : ks.length ≤ 1000) (nd : ks.Nodup)
    (q : ∀ p H', H p = none → Same H H' → H' p = some (.dK (ks.zip ys)) → Q (.ref p) H') : kDZ K Q [.ref a, .ref b] H := by
  refine ⟨a, b, ks, ys, rfl, h1, h2, hl, hz, fun p hp => ?_⟩
  have e : mergeK [] (ks.zip ys) = ks.zip ys := mergeK_nil (by
    rw [List.map_fst_zip (by omega)]
    exact nd)
  rw [e]
  exact q p _ hp (Same.new hp) upd_same
end
end Wp
set_option Elab.async false
set_option linter.all false
set_option maxRecDepth 100000
set_option maxHeartbeats 4000000
/-! Methods by their names; texts in tuples; sorted, list and dict of a dict; xs[::-1]; stars. -/
namespace Wp
open PySem PySem.Spec PyProof.Rows L2
/-- a method that keeps the promise -/
structure Dm (P : Program) (w : World) (K : PySem.W.Frag) (mg : Str → Option Value) (base : Heap) (CX : CXT) (k : Nat) (C : Addr) (m : Str) (sp : Sp) : Prop where
  ex : ∃ (f : Addr) (fd : FuncData) (ps : List Str), Meth K C m f ∧ FnOk P w K mg base CX k f fd ps sp ∧ Binds K fd ps []
  cl : Cls K C
def kMeth (C : Addr) (m : Str) (sp : Sp) (E : XK) (t : TA) (σ : L2.St) (Q : VK) : VK := fun x H1 => ∃ a dx fs, x = .ref a ∧ H1 a = some (.ins C dx fs) ∧ fs.lookup m = none ∧ t σ H1 fun vs H2 => sp (x :: (vs ++ [])) H2 Q E
section
variable {X : Cx} {CX : CXT} {k : Nat} {C a dx : Addr} {m : Str} {sp : Sp} {E : XK} {o e : Expr} {es : List Expr} {apos pos : Pos} {ta : TE} {t : TA} {fs : List (Str × V)}
theorem pe_mt {pl : Sem Bool} (D : Dm X.prog X.w X.K X.mg X.base CX k C m sp) (hr : Room k X.A) (hx : Passes CX X E) (ho : PE X o ta) (ha : PA X (e :: es) t)
    (hst : starEach (e :: es) X.env = (false, eval e X.env) :: starEach es X.env := by rfl) (hpl : (backTo pos (starEach es X.env)).any (·.1) = false := by rfl)
    (ht : eval (.Call (.Attribute o m apos) (e :: es) [] pos) X.env = (do
      let ov ← eval o X.env
      standAt apos.atName
      let (f, first) ← holding [ov] (getMethod ov m pl)
      callWith pos f first (backTo pos (starEach (e :: es) X.env)) (backToKw pos (keywordEach [] X.env))) := by rfl) :
    PE X (.Call (.Attribute o m apos) (e :: es) [] pos) (tMeth C m sp [] E ta t) := by
  obtain ⟨f, fd, ps, h1, h2, h3⟩ := D.ex
  exact pe_meth ho D.cl h1 h2 hr h3 .nil hx ha hst hpl ht
theorem pe_mt0 {pl : Sem Bool} (D : Dm X.prog X.w X.K X.mg X.base CX k C m sp) (hr : Room k X.A) (hx : Passes CX X E) (ho : PE X o ta)
    (ht : eval (.Call (.Attribute o m apos) [] [] pos) X.env = (do
      let ov ← eval o X.env
      standAt apos.atName
      let (f, first) ← holding [ov] (getMethod ov m pl)
      callWith pos f first (backTo pos (starEach [] X.env)) (backToKw pos (keywordEach [] X.env))) := by rfl) :
    PE X (.Call (.Attribute o m apos) [] [] pos) (tMeth C m sp [] E ta tNil) := by
  obtain ⟨f, fd, ps, h1, h2, h3⟩ := D.ex
  exact pe_meth0 ho D.cl h1 h2 hr h3 .nil hx ht
theorem r_meth {σ : L2.St} {H : Hp} {Q : VK} (q : ta σ H (kMeth C m sp E t σ Q)) : tMeth C m sp [] E ta t σ H Q := q
theorem r_kMeth {σ : L2.St} {H : Hp} {Q : VK} (h : H a = some (.ins C dx fs)) (l : fs.lookup m = none) (q : t σ H fun vs H2 => sp (.ref a :: vs) H2 Q E) : kMeth C m sp E t σ Q (.ref a) H := by
  refine ⟨a, dx, fs, rfl, h, l, ?_⟩
  have e : (fun (vs : List V) (H2 : Hp) => sp (.ref a :: (vs ++ [])) H2 Q E) = fun vs H2 => sp (.ref a :: vs) H2 Q E := by
    funext vs H2
    rw [List.append_nil]
  rw [e]
  exact q
end
section
variable {K : PySem.W.Frag} {H : Hp} {Q : VK} {p q : Addr} {x : Str} {xs ys : List Str} {kvs : List (Key × V)}
theorem r_notInTS (h : SqT K H p (xs.map V.str)) (k : Q (.bl (!decide (x ∈ xs))) H) : rIn K true (.str x) (.ref p) H Q := by
  refine ⟨p, _, rfl, .inr h, rfl, flat_strs xs, ?_⟩
  rw [in_strs]
  exact k
theorem r_inTS (h : SqT K H p (xs.map V.str)) (k : Q (.bl (decide (x ∈ xs))) H) : rIn K false (.str x) (.ref p) H Q := by
  refine ⟨p, _, rfl, .inr h, rfl, flat_strs xs, ?_⟩
  rw [in_strs]
  exact k
/-! sorted, list, dict of a dict -/
def rSortedD : List V → Hp → VK → Prop := fun vs H Q => ∃ (a : Addr) (kvs : List (Key × V)) (ks : List Str), vs = [.ref a] ∧ Rd H a (.dK kvs) ∧ kvs.map (·.1) = ks.map Sum.inr ∧ ks.length < 64 ∧
  ∀ ys p, ys.Perm ks → sortedS ys = true → H p = none → Q (.ref p) (upd H p (.lst (ys.map V.str)))
theorem c_sortedD {X : Cx} (hc : X.calm = true) : CallR X (.builtin "sorted") rSortedD := call_sortedD hc
theorem r_sortedD {ks : List Str} (h : H p = some (.dK kvs)) (e : kvs.map (·.1) = ks.map Sum.inr) (hl : ks.length < 64) (k : ∀ ys q H', ys.Perm ks → sortedS ys = true → H q = none → Same H H' → H' q = some (.lst (ys.map V.str)) → Q (.ref q) H') : rSortedD [.ref p] H Q :=
  ⟨p, kvs, ks, rfl, .inl h, e, hl, fun ys q h1 h2 hq => k ys q _ h1 h2 hq (Same.new hq) upd_same⟩
def rListD' : List V → Hp → VK → Prop := fun vs H Q => ∃ (a : Addr) (kvs : List (Key × V)), vs = [.ref a] ∧ Rd H a (.dK kvs) ∧ ∀ p, H p = none → Q (.ref p) (upd H p (.lst (kvs.map fun kv => kV kv.1)))
theorem c_listD {X : Cx} (hc : X.calm = true) : CallR X (.type "list") rListD' := call_listD hc
theorem r_listD (h : H p = some (.dK kvs)) (k : ∀ q H', H q = none → Same H H' → H' q = some (.lst (kvs.map fun kv => kV kv.1)) → Q (.ref q) H') : rListD' [.ref p] H Q :=
  ⟨p, kvs, rfl, .inl h, fun q hq => k q _ hq (Same.new hq) upd_same⟩
def rDictD' : List V → Hp → VK → Prop := fun vs H Q => ∃ (a : Addr) (kvs : List (Key × V)), vs = [.ref a] ∧ Rd H a (.dK kvs) ∧ ∀ p, H p = none → Q (.ref p) (upd H p (.dK kvs))
theorem c_dictD {X : Cx} : CallR X (.type "dict") rDictD' := call_dictD
theorem r_dictD (h : H p = some (.dK kvs)) (k : ∀ q H', H q = none → Same H H' → H' q = some (.dK kvs) → Q (.ref q) H') : rDictD' [.ref p] H Q :=
  ⟨p, kvs, rfl, .inl h, fun q hq => k q _ hq (Same.new hq) upd_same⟩
theorem r_sumT {zs : List Int} (h : SqT K H p (zs.map V.int)) (k : Q (.int zs.sum) H) : rSumT K [.ref p] H Q := ⟨p, zs, rfl, h, k⟩
end
section
variable {X : Cx} {K : PySem.W.Frag} {H : Hp} {Q : VK} {a : Addr} {xs : List V} {σ : L2.St} {te : TE} {tr : TA}
/-! xs[::-1] -/
def kRevL (K : PySem.W.Frag) (Q : VK) : VK := fun x H1 => ∃ a xs, x = .ref a ∧ SqL K H1 a xs ∧ ∀ p, H1 p = none → Q (.ref p) (upd H1 p (.lst xs.reverse))
theorem pe_revLK {e : Expr} {k : Nat} {p1 p2 p3 pos : Pos} (h : X.K = K) (he : PE X e te) : PE X (.Subscript e (.Slice none none (some (.UnaryOp .USub (.Constant (.int 1) k p1) p2)) p3) pos) (tRevL K te) := by
  subst h
  exact pe_revL he
theorem r_revL (q : te σ H (kRevL K Q)) : tRevL K te σ H Q := q
theorem r_kRevL (h : SqL K H a xs) (q : ∀ p H', H p = none → Same H H' → H' p = some (.lst xs.reverse) → Q (.ref p) H') : kRevL K Q (.ref a) H := ⟨a, xs, rfl, h, fun p hp => q p _ hp (Same.new hp) upd_same⟩
/-! stars -/
def kStar (K : PySem.W.Frag) (t : TA) (σ : L2.St) (QA : List V → Hp → Prop) : VK := fun x H1 => ∃ p xs, x = V.ref p ∧ (SqT K H1 p xs ∨ SqL K H1 p xs) ∧ t σ H1 fun ys H2 => QA (xs ++ ys) H2
theorem pa_starK {e : Expr} {es : List Expr} {p : Pos} (h : X.K = K) (he : PE X e te) (hr : PA X es tr) (hs : starEach (.Starred e p :: es) X.env = (true, eval e X.env) :: starEach es X.env := by rfl) : PA X (.Starred e p :: es) (StX.tStar K te tr) := by
  subst h
  exact StX.pa_star he hr hs
theorem r_star {QA : List V → Hp → Prop} (q : te σ H (kStar K tr σ QA)) : StX.tStar K te tr σ H QA := q
theorem r_kStarL {QA : List V → Hp → Prop} (h : SqL K H a xs) (q : tr σ H fun ys H2 => QA (xs ++ ys) H2) : kStar K tr σ QA (.ref a) H := ⟨a, xs, rfl, .inr h, q⟩
theorem r_kStarT {QA : List V → Hp → Prop} (h : SqT K H a xs) (q : tr σ H fun ys H2 => QA (xs ++ ys) H2) : kStar K tr σ QA (.ref a) H := ⟨a, xs, rfl, .inl h, q⟩
end
/-! == of texts and of tuples of ints -/
section
variable {K : PySem.W.Frag} {H : Hp} {Q : VK} {p q : Addr}
theorem dp_strs : ∀ ns : List Str, DpAll K H (ns.map V.str) (ns.map PyData.str)
  | [] => .nil
  | n :: r => .cons (.str n) (dp_strs r)
theorem r_eqTI {as bs : List Int} (h1 : SqT K H p (as.map V.int)) (h2 : SqT K H q (bs.map V.int)) (k : Q (.bl (decide (as = bs))) H) : rEqD K (.ref p) (.ref q) H Q := by
  have shp : ∀ ns : List Int, SeqAt.shaped (.tuple (ns.map PyData.int)) = true := fun ns => by
    show (PyData.canLayAll0 (ns.map PyData.int) && decide (PyData.depthAll (ns.map PyData.int) + 1 ≤ 64)) = true
    rw [lay_ints, dep_ints]
    rfl
  refine ⟨.tuple (as.map .int), .tuple (bs.map .int), .tup h1 (dp_ints as), .tup h2 (dp_ints bs), shp as, shp bs, ?_⟩
  show Q (.bl (PyData.eqvAll (as.map PyData.int) (bs.map PyData.int))) H
  rw [eqv_ints]
  exact k
end
end Wp
set_option linter.all false
/-! Names: one to eight small letters (plain Lean). -/
namespace Wp
open PySem PyProof.Rows L2
def Low (s : Str) : Prop := ∀ c ∈ s.cps.toList, 97 ≤ c ∧ c ≤ 122
structure NameOk (s : Str) : Prop where
  lo : 1 ≤ s.length
  hi : s.length ≤ 8
  low : Low s
def abc : Str := "abcdefghijklmnopqrstuvwxyz"
def pool : List Str := ["a", "b", "buy", "pay", "cash", "end", "free", "day", "laid", "zzzzzzzz", "rate", "statement"]
theorem abc_list : abc.cps.toList = [97, 98, 99, 100, 101, 102, 103, 104, 105, 106, 107, 108, 109, 110, 111, 112, 113, 114, 115, 116, 117, 118, 119, 120, 121, 122] := by decide +kernel
theorem abc_mem {c : Nat} : c ∈ abc.cps.toList ↔ 97 ≤ c ∧ c ≤ 122 := by
  rw [abc_list]
  simp only [List.mem_cons, List.not_mem_nil, or_false]
  omega
theorem abc_len : abc.length = 26 := by decide +kernel
theorem abc_at {i : Nat} {c : Nat} (h : abc.cps.toList[i]? = some c) : 97 ≤ c ∧ c ≤ 122 := abc_mem.mp (List.mem_of_getElem? h)
theorem split_pool : Txt.split "a b buy pay cash end free day laid zzzzzzzz rate statement" " " = pool := by decide +kernel
def lowB (s : Str) : Bool := decide (1 ≤ s.length) && s.cps.toList.all fun c => decide (97 ≤ c) && decide (c ≤ 122)
theorem lowB_ok {s : Str} (h : lowB s = true) : 1 ≤ s.length ∧ Low s := by
  simp only [lowB, Bool.and_eq_true, decide_eq_true_eq, List.all_eq_true] at h
  exact ⟨h.1, fun c hc => h.2 c hc⟩
theorem pool_ok : ∀ s ∈ pool, lowB s = true := by decide +kernel
theorem pool_len : ∀ s ∈ pool, s.length ≤ 9 := by decide +kernel
theorem cut_list (z : Str) (k : Nat) : (cutS z none (some (k : Int))).cps.toList = z.cps.toList.take k := by
  have h : z.length = z.cps.toList.length := by simp [Str.length]
  have e : HT.sIx z.length z.length (some (k : Int)) = min k z.length := by
    unfold HT.sIx
    simp only
    split <;> omega
  unfold cutS
  rw [e]
  have e0 : HT.sIx z.length 0 none = 0 := rfl
  rw [e0, List.drop_zero, Nat.sub_zero, List.toList_toArray, h, ← List.take_eq_take_min]
theorem cut_len (z : Str) (k : Nat) : (cutS z none (some (k : Int))).length = min k z.length := by
  have h : ∀ s : Str, s.length = s.cps.toList.length := fun s => by simp [Str.length]
  rw [h, cut_list, List.length_take, ← h]
theorem cut_low {z : Str} (k : Nat) (h : Low z) : Low (cutS z none (some (k : Int))) := fun c hc => by
  rw [cut_list] at hc
  exact h c (List.mem_of_mem_take hc)
theorem cut8 {z : Str} (h : 1 ≤ z.length) (hl : Low z) : NameOk (cutS z none (some 8)) :=
  have e : (cutS z none (some 8)).length = min 8 z.length := cut_len z 8
  ⟨by omega, by omega, cut_low 8 hl⟩
/-- the label's first seven signs and a letter -/
def near (z : Str) (c : Nat) : Str := cutS z none (some 7) ++ ⟨#[c]⟩
theorem near_list (z : Str) (c : Nat) : (near z c).cps.toList = z.cps.toList.take 7 ++ [c] := by
  unfold near
  rw [Str.cps_append, Array.toList_append, show (cutS z none (some 7)).cps.toList = z.cps.toList.take 7 from cut_list z 7]
theorem near_inj {z : Str} {c d : Nat} (h : near z c = near z d) : c = d := by
  have e := congrArg (fun s : Str => s.cps.toList) h
  simp only [near_list] at e
  have := List.append_cancel_left e
  simpa using this
theorem near_ok {z : Str} {c : Nat} (hl : Low z) (hc : 97 ≤ c ∧ c ≤ 122) : NameOk (near z c) := by
  have h : (near z c).length = (z.cps.toList.take 7).length + 1 := by
    have : (near z c).length = (near z c).cps.toList.length := by simp [Str.length]
    rw [this, near_list, List.length_append]
    rfl
  rw [List.length_take] at h
  refine ⟨by omega, by omega, fun d hd => ?_⟩
  rw [near_list] at hd
  rcases List.mem_append.mp hd with hd | hd
  · exact hl d (List.mem_of_mem_take hd)
  · rw [List.mem_singleton.mp hd]
    exact hc
theorem nodup_le {α : Type} [DecidableEq α] : ∀ {xs ys : List α}, xs.Nodup → (∀ x ∈ xs, x ∈ ys) → xs.length ≤ ys.length
  | [], _, _, _ => Nat.zero_le _
  | x :: xs, ys, hn, hs => by
    have hx := hs x (List.mem_cons_self ..)
    have h1 := (List.nodup_cons.mp hn).1
    have h2 := nodup_le (xs := xs) (ys := ys.erase x) (List.nodup_cons.mp hn).2 fun y hy => by
      refine (List.mem_erase_of_ne ?_).mpr (hs y (List.mem_cons_of_mem _ hy))
      rintro rfl
      exact h1 hy
    rw [List.length_erase_of_mem hx] at h2
    have : 0 < ys.length := List.length_pos_of_mem hx
    simp only [List.length_cons]
    omega
/-- one of the twenty-six is new -/
theorem near_new {z : Str} {found : List Str} (h : found.length < 26) : ∃ c, c ∈ abc.cps.toList ∧ near z c ∉ found := by
  by_cases hc : ∃ c, c ∈ abc.cps.toList ∧ near z c ∉ found
  · exact hc
  · have hall : ∀ s ∈ abc.cps.toList.map (near z), s ∈ found := by
      intro s hs
      obtain ⟨c, hc1, rfl⟩ := List.mem_map.mp hs
      by_cases hm : near z c ∈ found
      · exact hm
      · exact absurd ⟨c, hc1, hm⟩ hc
    have hnd : (abc.cps.toList.map (near z)).Nodup := by
      refine List.pairwise_map.mpr ?_
      have h0 : abc.cps.toList.Nodup := by
        rw [abc_list]
        decide
      exact List.Pairwise.imp (fun hne e => hne (near_inj e)) h0
    have := nodup_le hnd hall
    rw [List.length_map, abc_list] at this
    simp at this
    omega
theorem join_signs (cs : List Nat) : (Txt.join ⟨#[]⟩ (cs.map fun c => (⟨#[c]⟩ : Str))) = ⟨cs.toArray⟩ := by
  have h := join_nil_signs (⟨cs.toArray⟩ : Str)
  unfold Txt.join
  rw [PySem.StrLaws.glued_eq_join]
  exact h
theorem join_ok {cs : List Nat} (h1 : 1 ≤ cs.length) (h2 : cs.length ≤ 8) (hl : ∀ c ∈ cs, 97 ≤ c ∧ c ≤ 122) : NameOk (⟨cs.toArray⟩ : Str) := by
  have e : (⟨cs.toArray⟩ : Str).length = cs.length := by simp [Str.length]
  exact ⟨by omega, by omega, fun c hc => hl c (by simpa using hc)⟩
/-- names, all unlike -/
structure NamesOk (xs : List Str) : Prop where
  ok : ∀ x ∈ xs, NameOk x
  nd : xs.Nodup
theorem NamesOk.nil : NamesOk [] := ⟨fun _ h => (by cases h), List.nodup_nil⟩
theorem NamesOk.snoc {xs : List Str} {x : Str} (h : NamesOk xs) (hx : NameOk x) (hn : x ∉ xs) : NamesOk (xs ++ [x]) :=
  ⟨fun y hy => by
    rcases List.mem_append.mp hy with hy | hy
    · exact h.ok y hy
    · rw [List.mem_singleton.mp hy]
      exact hx, by
    refine List.nodup_append.mpr ⟨h.nd, by simp, fun a ha b hb => ?_⟩
    rw [List.mem_singleton.mp hb]
    rintro rfl
    exact hn ha⟩
end Wp
set_option Elab.async false
set_option linter.all false
set_option maxRecDepth 100000
set_option maxHeartbeats 4000000
/-! Books: their parts, the dict of parts, slices of lengths. -/
namespace Wp
open PySem PySem.Spec PyProof.Rows L2
/-- kinds: a dict of names, each to a rate and whether it is free -/
inductive KAt (H : Hp) : List (Key × V) → List (Str × Int × Bool) → Prop
  | nil : KAt H [] []
  | cons {n : Str} {r : Int} {b : Bool} {t : Addr} {kvs : List (Key × V)} {ks : List (Str × Int × Bool)} : H t = some (.tup [.int r, .bl b]) → KAt H kvs ks → KAt H ((Sum.inr n, .ref t) :: kvs) ((n, r, b) :: ks)
theorem KAt.keep {H H' : Hp} {kvs : List (Key × V)} {ks : List (Str × Int × Bool)} (h : KAt H kvs ks) (e : ∀ t xs, H t = some (.tup xs) → H' t = some (.tup xs)) : KAt H' kvs ks := by
  induction h with
  | nil => exact .nil
  | cons h _ ih => exact .cons (e _ _ h) ih
theorem KAt.len {H : Hp} {kvs : List (Key × V)} {ks : List (Str × Int × Bool)} (h : KAt H kvs ks) : kvs.length = ks.length := by
  induction h with
  | nil => rfl
  | cons _ _ ih => simp [ih]
theorem KAt.keys {H : Hp} {kvs : List (Key × V)} {ks : List (Str × Int × Bool)} (h : KAt H kvs ks) : kvs.map (·.1) = (ks.map (·.1)).map Sum.inr := by
  induction h with
  | nil => rfl
  | cons _ _ ih => simp [ih]
theorem KAt.get {H : Hp} {kvs : List (Key × V)} {ks : List (Str × Int × Bool)} (h : KAt H kvs ks) : ∀ {i : Nat} {k : Key} {v : V}, kvs[i]? = some (k, v) → ∃ n r b t, k = Sum.inr n ∧ v = .ref t ∧ H t = some (.tup [.int r, .bl b]) ∧ ks[i]? = some (n, r, b) := by
  induction h with
  | nil => intro i k v e; simp at e
  | @cons n r b t kvs ks h _ ih =>
    intro i k v e
    cases i with
    | zero =>
      have e := Option.some.inj e
      cases e
      exact ⟨n, r, b, t, rfl, rfl, h, rfl⟩
    | succ i =>
      obtain ⟨n', r', b', t', h1, h2, h3, h4⟩ := ih (i := i) (by simpa using e)
      exact ⟨n', r', b', t', h1, h2, h3, by simpa using h4⟩
theorem KAt.val {H : Hp} {kvs : List (Key × V)} {ks : List (Str × Int × Bool)} (h : KAt H kvs ks) (nd : (ks.map (·.1)).Nodup) : ∀ {n : Str} {r : Int} {b : Bool}, (n, r, b) ∈ ks → ∃ t, valV kvs (Sum.inr n) = some (.ref t) ∧ H t = some (.tup [.int r, .bl b]) := by
  induction h with
  | nil => intro n r b e; cases e
  | @cons n r b t kvs ks h _ ih =>
    intro n' r' b' e
    rw [List.map_cons, List.nodup_cons] at nd
    rcases List.mem_cons.mp e with e | e
    · cases e
      exact ⟨t, by simp [valV], h⟩
    · obtain ⟨t', h1, h2⟩ := ih nd.2 e
      have hne : n ≠ n' := by
        rintro rfl
        exact nd.1 (List.mem_map.mpr ⟨_, e, rfl⟩)
      exact ⟨t', by rw [valV_neg (fun z => hne (Sum.inr.inj z))]; exact h1, h2⟩
theorem KAt.snoc {H : Hp} {kvs : List (Key × V)} {ks : List (Str × Int × Bool)} {n : Str} {r : Int} {b : Bool} {t : Addr} (h : KAt H kvs ks) (ht : H t = some (.tup [.int r, .bl b])) : KAt H (kvs ++ [(Sum.inr n, .ref t)]) (ks ++ [(n, r, b)]) := by
  induction h with
  | nil => exact .cons ht .nil
  | cons h _ ih => exact .cons h ih
theorem KAt.fresh {H : Hp} {kvs : List (Key × V)} {ks : List (Str × Int × Bool)} {n : Str} (h : KAt H kvs ks) (hn : n ∉ ks.map (·.1)) : valV kvs (Sum.inr n) = none := by
  induction h with
  | nil => rfl
  | @cons n' r b t kvs ks h _ ih =>
    rw [List.map_cons, List.mem_cons, not_or] at hn
    rw [valV_neg (fun z => hn.1 (Sum.inr.inj z).symm)]
    exact ih hn.2
structure KindsOk (ks : List (Str × Int × Bool)) : Prop where
  lo : 1 ≤ ks.length
  hi : ks.length ≤ 6
  nm : NamesOk (ks.map (·.1))
  rt : ∀ k ∈ ks, 0 ≤ k.2.1 ∧ k.2.1 ≤ 1000
/-- a book -/
structure Bk where
  ls : List Int
  due : Int
  ks : List (Str × Int × Bool)
  mem : Int
  beg : Str
  laid : Option (List Str)
structure Bk.Ok (B : Bk) : Prop where
  l1 : 1 ≤ B.ls.length
  l2 : B.ls.length ≤ 4
  l3 : ∀ n ∈ B.ls, 2 ≤ n ∧ n ≤ 31
  d0 : 0 ≤ B.due
  d1 : ∀ n ∈ B.ls, B.due < n
  kn : KindsOk B.ks
  m0 : 0 ≤ B.mem
  m1 : B.mem ≤ 2
  bg : B.beg = "day" ∨ B.beg = "statement"
def fBook (tl kd : Addr) (B : Bk) (lv : V) : List (Str × V) := [("b_lengths", .ref tl), ("b_due", .int B.due), ("b_kinds", .ref kd), ("b_memory", .int B.mem), ("b_begins", .str B.beg), ("b_laid", lv)]
def LaidV (H : Hp) : Option (List Str) → V → Prop
  | none, v => v = .non
  | some ns, v => ∃ t, v = .ref t ∧ H t = some (.tup (ns.map V.str))
theorem LaidV.keep {H H' : Hp} {o : Option (List Str)} {v : V} (h : LaidV H o v) (e : ∀ t xs, H t = some (.tup xs) → H' t = some (.tup xs)) : LaidV H' o v := by
  cases o with
  | none => exact h
  | some ns =>
    obtain ⟨t, rfl, ht⟩ := h
    exact ⟨t, rfl, e _ _ ht⟩
/-- a book stands at p, its parts at tl, kd and lv -/
structure BookIn (C : Addr) (H : Hp) (p : Addr) (B : Bk) (dx tl kd : Addr) (lv : V) (kvs : List (Key × V)) : Prop where
  i : H p = some (.ins C dx (fBook tl kd B lv))
  l : H tl = some (.tup (B.ls.map V.int))
  k : H kd = some (.dK kvs)
  a : KAt H kvs B.ks
  d : LaidV H B.laid lv
def BookAt (C : Addr) (H : Hp) (p : Addr) (B : Bk) : Prop := ∃ dx tl kd lv kvs, BookIn C H p B dx tl kd lv kvs
theorem BookIn.keep {C p dx tl kd : Addr} {H H' : Hp} {B : Bk} {lv : V} {kvs : List (Key × V)} (h : BookIn C H p B dx tl kd lv kvs) (e : Same H H') : BookIn C H' p B dx tl kd lv kvs :=
  ⟨e _ _ h.i, e _ _ h.l, e _ _ h.k, h.a.keep fun t xs q => e _ _ q, h.d.keep fun t xs q => e _ _ q⟩
theorem BookAt.keep {C p : Addr} {H H' : Hp} {B : Bk} (h : BookAt C H p B) (e : Same H H') : BookAt C H' p B := by
  obtain ⟨dx, tl, kd, lv, kvs, h⟩ := h
  exact ⟨dx, tl, kd, lv, kvs, h.keep e⟩
/-! the dict of the six parts -/
def wkv (a b c d e f : V) : List (Key × V) := [(Sum.inr ("lengths" : Str), a), (Sum.inr ("due" : Str), b), (Sum.inr ("kinds" : Str), c), (Sum.inr ("memory" : Str), d), (Sum.inr ("begins" : Str), e), (Sum.inr ("laid" : Str), f)]
def wks : List Key := [Sum.inr ("lengths" : Str), Sum.inr ("due" : Str), Sum.inr ("kinds" : Str), Sum.inr ("memory" : Str), Sum.inr ("begins" : Str), Sum.inr ("laid" : Str)]
theorem wks_nd : wks.Nodup := by decide +kernel
theorem kne {x y : Str} (h : decide (x = y) = false) : ¬ (Sum.inr x : Key) = Sum.inr y := fun z => of_decide_eq_false h (Sum.inr.inj z)
section
variable {a b c d e f x : V}
theorem wz_zip : wks.zip [a, b, c, d, e, f] = wkv a b c d e f := rfl
theorem wv1 : valV (wkv a b c d e f) (Sum.inr ("lengths" : Str)) = some a := valV_pos rfl
theorem wv2 : valV (wkv a b c d e f) (Sum.inr ("due" : Str)) = some b := by
  unfold wkv
  rw [valV_neg (kne (by decide +kernel)), valV_pos rfl]
theorem wv3 : valV (wkv a b c d e f) (Sum.inr ("kinds" : Str)) = some c := by
  unfold wkv
  rw [valV_neg (kne (by decide +kernel)), valV_neg (kne (by decide +kernel)), valV_pos rfl]
theorem wv4 : valV (wkv a b c d e f) (Sum.inr ("memory" : Str)) = some d := by
  unfold wkv
  rw [valV_neg (kne (by decide +kernel)), valV_neg (kne (by decide +kernel)), valV_neg (kne (by decide +kernel)), valV_pos rfl]
theorem wv5 : valV (wkv a b c d e f) (Sum.inr ("begins" : Str)) = some e := by
  unfold wkv
  rw [valV_neg (kne (by decide +kernel)), valV_neg (kne (by decide +kernel)), valV_neg (kne (by decide +kernel)), valV_neg (kne (by decide +kernel)), valV_pos rfl]
theorem wv6 : valV (wkv a b c d e f) (Sum.inr ("laid" : Str)) = some f := by
  unfold wkv
  rw [valV_neg (kne (by decide +kernel)), valV_neg (kne (by decide +kernel)), valV_neg (kne (by decide +kernel)), valV_neg (kne (by decide +kernel)), valV_neg (kne (by decide +kernel)), valV_pos rfl]
theorem wput {k : Key} (h : (valV (wkv a b c d e f) k).isSome = true) : putK (wkv a b c d e f) k x = (wkv a b c d e f).map (fun kv => if kv.1 = k then (kv.1, x) else kv) := by
  unfold putK
  rw [if_pos (by rw [valV_any]; exact h)]
theorem wp1 : putK (wkv a b c d e f) (Sum.inr ("lengths" : Str)) x = wkv x b c d e f := by
  rw [wput (by rw [wv1]; rfl)]
  simp only [wkv, List.map_cons, List.map_nil, if_pos trivial, if_neg (kne (x := "due") (y := "lengths") (by decide +kernel)), if_neg (kne (x := "kinds") (y := "lengths") (by decide +kernel)), if_neg (kne (x := "memory") (y := "lengths") (by decide +kernel)), if_neg (kne (x := "begins") (y := "lengths") (by decide +kernel)), if_neg (kne (x := "laid") (y := "lengths") (by decide +kernel))]
theorem wp2 : putK (wkv a b c d e f) (Sum.inr ("due" : Str)) x = wkv a x c d e f := by
  rw [wput (by rw [wv2]; rfl)]
  simp only [wkv, List.map_cons, List.map_nil, if_pos trivial, if_neg (kne (x := "lengths") (y := "due") (by decide +kernel)), if_neg (kne (x := "kinds") (y := "due") (by decide +kernel)), if_neg (kne (x := "memory") (y := "due") (by decide +kernel)), if_neg (kne (x := "begins") (y := "due") (by decide +kernel)), if_neg (kne (x := "laid") (y := "due") (by decide +kernel))]
theorem wp3 : putK (wkv a b c d e f) (Sum.inr ("kinds" : Str)) x = wkv a b x d e f := by
  rw [wput (by rw [wv3]; rfl)]
  simp only [wkv, List.map_cons, List.map_nil, if_pos trivial, if_neg (kne (x := "lengths") (y := "kinds") (by decide +kernel)), if_neg (kne (x := "due") (y := "kinds") (by decide +kernel)), if_neg (kne (x := "memory") (y := "kinds") (by decide +kernel)), if_neg (kne (x := "begins") (y := "kinds") (by decide +kernel)), if_neg (kne (x := "laid") (y := "kinds") (by decide +kernel))]
theorem wp4 : putK (wkv a b c d e f) (Sum.inr ("memory" : Str)) x = wkv a b c x e f := by
  rw [wput (by rw [wv4]; rfl)]
  simp only [wkv, List.map_cons, List.map_nil, if_pos trivial, if_neg (kne (x := "lengths") (y := "memory") (by decide +kernel)), if_neg (kne (x := "due") (y := "memory") (by decide +kernel)), if_neg (kne (x := "kinds") (y := "memory") (by decide +kernel)), if_neg (kne (x := "begins") (y := "memory") (by decide +kernel)), if_neg (kne (x := "laid") (y := "memory") (by decide +kernel))]
theorem wp5 : putK (wkv a b c d e f) (Sum.inr ("begins" : Str)) x = wkv a b c d x f := by
  rw [wput (by rw [wv5]; rfl)]
  simp only [wkv, List.map_cons, List.map_nil, if_pos trivial, if_neg (kne (x := "lengths") (y := "begins") (by decide +kernel)), if_neg (kne (x := "due") (y := "begins") (by decide +kernel)), if_neg (kne (x := "kinds") (y := "begins") (by decide +kernel)), if_neg (kne (x := "memory") (y := "begins") (by decide +kernel)), if_neg (kne (x := "laid") (y := "begins") (by decide +kernel))]
theorem wp6 : putK (wkv a b c d e f) (Sum.inr ("laid" : Str)) x = wkv a b c d e x := by
  rw [wput (by rw [wv6]; rfl)]
  simp only [wkv, List.map_cons, List.map_nil, if_pos trivial, if_neg (kne (x := "lengths") (y := "laid") (by decide +kernel)), if_neg (kne (x := "due") (y := "laid") (by decide +kernel)), if_neg (kne (x := "kinds") (y := "laid") (by decide +kernel)), if_neg (kne (x := "memory") (y := "laid") (by decide +kernel)), if_neg (kne (x := "begins") (y := "laid") (by decide +kernel))]
end
/-- a permutation of images is the image of a permutation -/
theorem perm_lift {α β : Type} [DecidableEq α] (f : α → β) : ∀ (ys : List β) (ks : List α), ys.Perm (ks.map f) → ∃ ms : List α, ms.Perm ks ∧ ms.map f = ys
  | [], ks, h => by
    have e : ks = [] := List.map_eq_nil_iff.mp (List.Perm.nil_eq h).symm
    subst e
    exact ⟨[], .nil, rfl⟩
  | y :: r, ks, h => by
    obtain ⟨k, hk, rfl⟩ := List.mem_map.mp (h.mem_iff.mp (List.mem_cons_self ..))
    have h2 : (f k :: r).Perm (f k :: (ks.erase k).map f) := h.trans (((List.perm_cons_erase hk).map f))
    obtain ⟨ms, p, e⟩ := perm_lift f r (ks.erase k) (List.Perm.cons_inv h2)
    exact ⟨k :: ms, (p.cons k).trans (List.perm_cons_erase hk).symm, by rw [List.map_cons, e]⟩
/-! slices and sums of lengths -/
theorem cutV_take {xs : List V} {i : Int} (h0 : 0 ≤ i) : cutV xs none (some i) = xs.take i.toNat := by
  have e : HT.sIx xs.length xs.length (some i) = min i.toNat xs.length := by
    show (if i < 0 then (i + (xs.length : Int)).toNat else min i.toNat xs.length) = _
    rw [if_neg (by omega)]
  unfold cutV
  rw [e]
  show (xs.drop 0).take (min i.toNat xs.length - 0) = _
  rw [List.drop_zero, Nat.sub_zero]
  by_cases h : i.toNat ≤ xs.length
  · rw [Nat.min_eq_left h]
  · rw [Nat.min_eq_right (by omega), List.take_length, List.take_of_length_le (by omega)]
section
variable {K : PySem.W.Frag} {H : Hp} {Q : VK} {p : Addr} {xs : List V}
theorem r_slT_take {i : Int} (h : SqT K H p xs) (h0 : 0 ≤ i) (h1 : i < xs.length) (q : ∀ t H', H t = none → Same H H' → H' t = some (.tup (xs.take i.toNat)) → Q (.ref t) H') : rSlT K (.ref p) none (some i) H Q := by
  refine ⟨p, xs, rfl, h, ?_, fun t ht => ?_⟩
  · rintro ⟨_, e⟩
    have e2 : (if i < 0 then (i + (xs.length : Int)).toNat else min i.toNat xs.length) = xs.length := e
    rw [if_neg (by omega)] at e2
    omega
  · rw [cutV_take h0]
    exact q t _ ht (Same.new ht) upd_same
theorem r_minSeq {ns : List Int} (h : SeqV K H p (ns.map V.int)) (h0 : 0 < ns.length) (k : ∀ m, m ∈ ns → (∀ y ∈ ns, m ≤ y) → Q (.int m) H) : rEither (rMin K) (rMinT K) [.ref p] H Q := by
  rcases h with h | h
  · exact .inl ⟨p, ns, rfl, h, h0, fun m hm hy => k m hm hy⟩
  · exact .inr ⟨p, ns, rfl, h, h0, fun m hm hy => k m hm hy⟩
theorem r_tupOf (h : H p = some (.lst xs) ∨ H p = some (.tup xs)) (k : ∀ t H', Same H H' → H' t = some (.tup xs) → Q (.ref t) H') : rTupOf K [.ref p] H Q := by
  rcases h with h | h
  · exact ⟨p, xs, rfl, .inl ⟨SqL.of h, fun t ht => k t _ (Same.new ht) upd_same⟩⟩
  · exact ⟨p, xs, rfl, .inr ⟨SqT.of h, k p H (Same.refl _) h⟩⟩
end
namespace Bk
/-- the first day of a month -/
def first (B : Bk) (m : Int) : Int := m / (B.ls.length : Int) * B.ls.sum + (B.ls.take (m % (B.ls.length : Int)).toNat).sum
def rateOf (B : Bk) (n : Str) : Int := ((B.ks.find? fun k => decide (k.1 = n)).map (·.2.1)).getD 0
def freeOf (B : Bk) (n : Str) : Bool := ((B.ks.find? fun k => decide (k.1 = n)).map (·.2.2)).getD false
theorem find_of : ∀ {ks : List (Str × Int × Bool)} {n : Str} {r : Int} {b : Bool}, (ks.map (·.1)).Nodup → (n, r, b) ∈ ks → (ks.find? fun k => decide (k.1 = n)) = some (n, r, b)
  | [], _, _, _, _, h => by cases h
  | k :: ks, n, r, b, nd, h => by
    rw [List.map_cons, List.nodup_cons] at nd
    rcases List.mem_cons.mp h with e | e
    · subst e
      simp
    · have hne : ¬ k.1 = n := fun z => nd.1 (by rw [z]; exact List.mem_map.mpr ⟨_, e, rfl⟩)
      rw [List.find?_cons, decide_eq_false hne]
      exact find_of nd.2 e
end Bk
end Wp
set_option Elab.async false
set_option linter.all false
set_option maxRecDepth 100000
set_option maxHeartbeats 4000000
namespace Wp
open PySem PySem.Spec PyProof.Rows L2
abbrev s_is_list : Stmt := topS 22
abbrev s_is_name : Stmt := topS 23
abbrev s_are_lengths : Stmt := topS 24
abbrev s_is_kind : Stmt := topS 25
abbrev s_are_kinds : Stmt := topS 26
local macro_rules | `(tactic| walk_at "val") => `(tactic| assumption)
local macro_rules | `(tactic| walk_at "rd1") => `(tactic| first
  | with_reducible refine r_seq ?_ | with_reducible refine r_next ?_ | with_reducible refine r_if ?_ | with_reducible refine r_asg ?_ | with_reducible refine r_gname ?_
  | with_reducible refine r_ret ?_ | with_reducible refine r_retN ?_ | with_reducible refine r_drop ?_ | with_reducible refine r_par ?_ | with_reducible refine r_kPar ?_
  | ((with_reducible refine' r_var ?hv ?_); (case hv => exact rfl)) | with_reducible refine r_c ?_ | with_reducible refine r_nil ?_ | with_reducible refine r_cons ?_
  | with_reducible refine r_fn ?_ | with_reducible refine r_cb ?_ | with_reducible refine r_op ?_ | with_reducible refine r_un ?_ | with_reducible refine r_I0 ?_
  | with_reducible refine r_pow5 ?_ | with_reducible refine r_pow6 ?_ | with_reducible refine r_pow7 ?_ | with_reducible refine r_pow9 ?_ | with_reducible refine r_pow18 ?_ | with_reducible refine r_pow20 ?_ | with_reducible refine r_pow30 ?_
  | with_reducible refine r_isN_non ?_ | with_reducible refine r_isN_ref ?_ | with_reducible refine r_isN_int ?_ | with_reducible refine r_isN_str ?_ | with_reducible refine r_isN_bl ?_ | with_reducible refine r_notN_non ?_ | with_reducible refine r_notN_ref ?_ | with_reducible refine r_notN_int ?_ | with_reducible refine r_notN_str ?_ | with_reducible refine r_notN_bl ?_
  | ((with_reducible refine r_I ?hc ?_); (case hc => walk_at "side")) | with_reducible refine r_U ?_
  | with_reducible refine r_eqI ?_ | with_reducible refine r_neI ?_ | with_reducible refine r_eqS ?_ | with_reducible refine r_neS ?_ | with_reducible refine r_eqB ?_ | with_reducible refine r_neB ?_
  | with_reducible refine r_chain ?_ | with_reducible refine r_test ?_ | with_reducible refine r_tB ?_ | with_reducible refine r_kTest ?_ | with_reducible refine r_not ?_
  | with_reducible refine r_and ?_ | with_reducible refine r_or ?_ | with_reducible refine r_tif ?_ | with_reducible refine r_andV ?_ | with_reducible refine r_orV ?_ | with_reducible refine r_notV ?_
  | with_reducible refine r_kAndV ?_ | with_reducible refine r_kOrV ?_ | with_reducible refine r_kNotV ?_
  | with_reducible refine w_T ?_ | with_reducible refine w_F ?_ | with_reducible refine w_NT ?_ | with_reducible refine w_NF ?_
  | with_reducible refine r_tup ?_ | with_reducible refine r_lst ?_ | with_reducible refine r_fld ?_ | with_reducible refine r_prop ?_ | ((with_reducible refine' r_aug ?h1 ?_); (case h1 => exact rfl)) | with_reducible refine r_ipI ?_ | with_reducible refine r_dget ?_ | with_reducible refine r_dput ?_ | with_reducible refine r_bm ?_
  | ((with_reducible refine' r_kDGetS ?h1 ?h2 ?_); (case h1 => assumption); (case h2 => walk_at "val"))
  | ((with_reducible refine' r_kBML ?h1 ?_); (case h1 => assumption))
  | with_reducible refine r_forL ?_ | with_reducible refine r_forR1 ?_ | with_reducible refine r_forR2 ?_ | with_reducible refine r_forT ?_ | with_reducible refine r_lcL ?_ | with_reducible refine r_lcR1 ?_
  | ((with_reducible refine r_kLcG ?hw ?_); (case hw => exact rfl)) | with_reducible refine r_kLcT ?_ | with_reducible refine r_yes ?_
  | with_reducible refine r_pnil ?_ | with_reducible refine r_pcons ?_
  | with_reducible refine r_fnK ?_ | ((with_reducible refine r_kFnK ?hl ?_); (case hl => exact rfl))
  | with_reducible refine r_isi_ii ?_ | with_reducible refine r_isi_ib ?_ | with_reducible refine r_isi_bi ?_ | with_reducible refine r_isi_bb ?_ | with_reducible refine r_isi_ss ?_ | with_reducible refine r_isi_is ?_ | with_reducible refine r_isi_it ?_
  | ((with_reducible refine' r_isi_tt ?h1 ?_); (case h1 => assumption))
  | with_reducible refine r_sfld ?_ | with_reducible refine r_gnil ?_ | with_reducible refine r_gcons ?_
  | ((with_reducible refine' r_gtup ?h1 ?h2 ?_); (case h1 => exact SqT.of (by assumption)); (case h2 => exact rfl))
  | with_reducible refine r_sl ?_ | with_reducible refine r_noPart ?_ | with_reducible refine r_part ?_ | with_reducible refine r_kPart ?_ | with_reducible refine r_m1 ?_ | with_reducible refine r_kM1 ?_ | with_reducible refine r_forS ?_ | with_reducible refine r_lcS ?_ | with_reducible refine r_lcTu ?_ | with_reducible refine r_lcK ?_ | with_reducible refine r_dcL ?_ | with_reducible refine r_lenD ?_
  | ((with_reducible refine r_kDcG ?hw ?_); (case hw => exact rfl)) | with_reducible refine r_kDcT ?_
  | with_reducible refine r_meth ?_ | with_reducible refine r_dz ?_ | with_reducible refine r_revL ?_ | with_reducible refine r_star ?_ | with_reducible refine r_int1 ?_ | with_reducible refine r_int1b ?_ | with_reducible refine r_min2 ?_ | with_reducible refine r_max2 ?_)
local macro_rules | `(tactic| walk_at "rd") => `(tactic| repeat walk_at "rd1")
local macro_rules | `(tactic| walk_at "side") => `(tactic| first | assumption | exact Or.inr ⟨by decide, by decide⟩ | exact Or.inl ⟨by decide, by decide⟩ | (constructor <;> omega) | omega | decide | (refine Or.inl ⟨?_, ?_⟩ <;> omega) | (refine Or.inr ⟨?_, ?_⟩ <;> omega) | (refine ⟨?_, ?_, ?_⟩ <;> first | decide | omega))
def sp_is_list (K : PySem.W.Frag) : Sp := fun vs H Q _ => ∃ (p : Addr) (xs : List V), vs = [.ref p] ∧ SeqV K H p xs ∧ ∀ H', Same H H' → Q (.bl true) H'
def sp_is_name : Sp := fun vs H Q _ => ∃ (z : Str), vs = [.str z] ∧ NameOk z ∧ ∀ H', Same H H' → Q (.bl true) H'
def sp_are_lengths (K : PySem.W.Frag) : Sp := fun vs H Q _ => ∃ (p : Addr) (ns : List Int), vs = [.ref p] ∧ SeqV K H p (ns.map V.int) ∧ 1 ≤ ns.length ∧ ns.length ≤ 4 ∧ (∀ n ∈ ns, 2 ≤ n ∧ n ≤ 31) ∧ ∀ H', Same H H' → Q (.bl true) H'
def sp_is_kind : Sp := fun vs H Q _ => ∃ (t : Addr) (r : Int) (b : Bool), vs = [.ref t] ∧ H t = some (.tup [.int r, .bl b]) ∧ 0 ≤ r ∧ r ≤ 1000 ∧ Q (.bl true) H
def sp_are_kinds : Sp := fun vs H Q _ => ∃ (a : Addr) (kvs : List (Key × V)) (ks : List (Str × Int × Bool)), vs = [.ref a] ∧ H a = some (.dK kvs) ∧ KAt H kvs ks ∧ KindsOk ks ∧ ∀ H', Same H H' → Q (.bl true) H'
section
variable {P : Program} {w : World} {K : PySem.W.Frag} {mg : Str → Option Value} {base : Heap}
theorem ok_is_list {f : Addr} {fd : FuncData} (T : Tx K mg) (F : FnP K "is_list" s_is_list f fd) : FnOk P w K mg base CX0 1 f fd ["value"] (sp_is_list K) := by
  have sc : FnScope ["value"] ["value"] (defScope s_is_list) := ⟨rfl, rfl, rfl, by decide +kernel, rfl, by decide +kernel, by decide +kernel⟩
  refine F.ok sc (by rintro vs H Q E ⟨_, _, rfl, _⟩; rfl) (fun cdv A outer s H vs Q E hr h => ⟨_, PSs.nox ((pss_one (ps_ret (pe_callB (c_isiTK (K := K) rfl) (by rfl) T.b_isinstance (by decide +kernel) (pa_cons (pv 0) (pa_cons (pe_tup (pa_cons (pe_bltn (v := .ty "list") (by rfl) T.b_list (by decide +kernel) rfl) (pa_cons (pe_bltn (v := .ty "tuple") (by rfl) T.b_tuple (by decide +kernel) rfl) pa_nil))) pa_nil)))))), ?_⟩)
  obtain ⟨p, xs, rfl, h, k⟩ := h
  walk_at "rd"
  refine r_kTup fun tp H1 np e1 hp => ?_
  walk_at "rd"
  exact r_isSeq (h.same e1) hp (k H1 e1)
theorem ok_is_name {f : Addr} {fd : FuncData} (T : Tx K mg) (F : FnP K "is_name" s_is_name f fd) : FnOk P w K mg base CX0 1 f fd ["value"] sp_is_name := by
  have sc : FnScope ["value", "sign"] ["value"] (defScope s_is_name) := ⟨rfl, rfl, rfl, by decide +kernel, rfl, by decide +kernel, by decide +kernel⟩
  refine F.ok sc (by rintro vs H Q E ⟨_, rfl, _⟩; rfl) (fun cdv A outer s H vs Q E hr h => ⟨_, PSs.nox ((pss_one (ps_ret (pe_and (pe_callB (c_isiK (K := K) rfl) (by rfl) T.b_isinstance (by decide +kernel) (pa_cons (pv 0) (pa_cons (pe_bltn (v := .ty "str") (by rfl) T.b_str (by decide +kernel) rfl) pa_nil))) (pe_and (pe_chain op_le op_le pe_int (pe_callB (c_lenK (K := K) rfl) (by rfl) T.b_len (by decide +kernel) (pa_cons (pv 0) pa_nil)) (pe_glob (v := .int 8) (by rfl) T.c_MOST_NAME.choose_spec ⟨_, rfl⟩)) (pe_one (pe_callB (c_allK (K := K) rfl rfl) (by rfl) T.b_all (by decide +kernel) (pa_cons (pe_lc (own := [("sign", 1)]) (by rfl) sc.nd (pi_str (pv 0)) (blkOk_by (own := [("sign", 1)]) (N := ["value", "sign"]) (sc := defScope s_is_name) (by decide +kernel)) (fun _ _ _ _ _ => (pg_name (i := 1) sc.nd rfl (by first | exact Or.inl rfl | exact Or.inr rfl))) (fun _ _ _ _ _ => pts_nil) (fun _ _ _ _ _ => (pe_cmpR op_in_sign (pv 1) (pe_glob (v := .str "abcdefghijklmnopqrstuvwxyz") (by rfl) T.c_LETTERS.choose_spec ⟨_, rfl⟩) (by rfl)))) pa_nil)))))))), ?_⟩)
  obtain ⟨z, rfl, ok, k⟩ := h
  have h1 := ok.lo
  have h2 := ok.hi
  walk_at "rd"
  refine r_lenS (by omega) ?_
  walk_at "rd"
  refine r_kChain (fun _ => ?_) (fun hf => absurd (of_decide_eq_false hf) (by omega))
  walk_at "rd"
  refine w_yes (decide_eq_true (by omega)) ?_
  walk_at "rd"
  refine r_kLcS (fun Da i H' => Same H H' ∧ H' Da = some (.lst ((List.replicate i true).map V.bl))) (fun Da H' _ e h => ⟨e, h⟩) ?_ ?_
  · rintro Da i c H' hD hc ⟨e, h⟩
    walk_at "rd"
    refine r_inSign ?_
    have hcl : i < z.cps.size := (Array.getElem?_eq_some_iff.mp hc).1
    have hzl : z.length = z.cps.size := rfl
    have hm : c ∈ abc.cps.toList := abc_mem.mpr (ok.low c (by
      have : z.cps.toList[i]? = some c := by rw [Array.getElem?_toList]; exact hc
      exact List.mem_of_getElem? this))
    rw [decide_eq_true (show c ∈ (Str.ofString "abcdefghijklmnopqrstuvwxyz").cps.toList from hm)]
    refine r_kLcE h (by rw [List.length_map, List.length_replicate]; omega) fun H1 b1 h1 => ⟨Same.mut e b1 hD, ?_⟩
    rw [rep_more]
    exact h1
  · rintro Da H' hD ⟨e, h⟩
    walk_at "rd"
    refine r_all (SqL.of h) ?_
    rw [all_rep]
    exact k H' e
theorem ok_are_lengths {f : Addr} {fd : FuncData} (T : Tx K mg) (F : FnP K "are_lengths" s_are_lengths f fd) (d_is_list : Dn P w K mg base CX0 1 "is_list" ["value"] (sp_is_list K)) (d_is_number_in : Dn P w K mg base CX0 2 "is_number_in" ["value", "least", "most"] (sp_is_number_in K)) :
    FnOk P w K mg base CX0 3 f fd ["value"] (sp_are_lengths K) := by
  have sc : FnScope ["value", "length"] ["value"] (defScope s_are_lengths) := ⟨rfl, rfl, rfl, by decide +kernel, rfl, by decide +kernel, by decide +kernel⟩
  refine F.ok sc (by rintro vs H Q E ⟨_, _, rfl, _⟩; rfl) (fun cdv A outer s H vs Q E hr h => ⟨_, PSs.nox ((pss_cons (ps_if (PW.pt (pw_or (pt_not (pt_val (pe_fn d_is_list (hr.mono (by decide)) pass0 (pa_cons (pv 0) pa_nil)))) (pw_or1 (pt_not (pt_chain op_le op_le pe_int (pe_callB (c_lenK (K := K) rfl) (by rfl) T.b_len (by decide +kernel) (pa_cons (pv 0) pa_nil)) (pe_glob (v := .int 4) (by rfl) T.c_MOST_LENGTHS.choose_spec ⟨_, rfl⟩)))))) (pss_one (ps_ret pe_bl)) pss_nil)
      (pss_one (ps_ret (pe_callB (c_allK (K := K) rfl rfl) (by rfl) T.b_all (by decide +kernel) (pa_cons (pe_lc (own := [("length", 1)]) (by rfl) sc.nd (pi_either (pi_listK (K := K) rfl (pv 0)) (pi_tupK (K := K) rfl (pv 0))) (blkOk_by (own := [("length", 1)]) (N := ["value", "length"]) (sc := defScope s_are_lengths) (by decide +kernel)) (fun _ _ _ _ _ => (pg_name (i := 1) sc.nd rfl (by first | exact Or.inl rfl | exact Or.inr rfl))) (fun _ _ _ _ _ => pts_nil) (fun _ _ _ _ _ => (pe_fn d_is_number_in (hr.mono (by decide)) pass0 (pa_cons (pv 1) (pa_cons (pe_glob (v := .int 2) (by rfl) T.c_SHORTEST.choose_spec ⟨_, rfl⟩) (pa_cons (pe_glob (v := .int 31) (by rfl) T.c_LONGEST.choose_spec ⟨_, rfl⟩) pa_nil)))))) pa_nil)))))), ?_⟩)
  obtain ⟨p, ns, rfl, hS, h1, h2, hn, k⟩ := h
  walk_at "rd"
  refine ⟨p, _, rfl, hS, fun H1 e1 => ?_⟩
  walk_at "rd"
  refine r_lenSeq (hS.same e1) ?_
  rw [List.length_map]
  walk_at "rd"
  refine r_kChain (fun _ => ?_) (fun hf => absurd (of_decide_eq_false hf) (by omega))
  walk_at "rd"
  refine w_no (by rw [decide_eq_true (by omega)]; rfl) ?_
  walk_at "rd"
  refine r_lcEither (xs := ns.map V.int) (hS.same e1) rfl (fun Da i H' => Same H1 H' ∧ H' Da = some (.lst ((List.replicate i true).map V.bl))) (fun Da H' _ e h => ⟨e, h⟩) (fun Da i H' h => ⟨(hS.same e1).same h.1, h.1⟩) ?_ ?_ (fun H' e h => SqL.same e h) (fun H' e h => SqT.same e h)
  · rintro Da i x H' hD hx ⟨e, h⟩
    obtain ⟨n, rfl, hi⟩ := ints_get hx
    have hm := hn n (List.mem_of_getElem? hi)
    have hil := (List.getElem?_eq_some_iff.mp hi).1
    walk_at "rd"
    refine u_in hm ?_
    refine r_kLcE h (by rw [List.length_map, List.length_replicate]; omega) fun H2 b2 h2 => ⟨Same.mut e b2 hD, ?_⟩
    rw [rep_more]
    exact h2
  · rintro Da H' hD ⟨e, h⟩
    walk_at "rd"
    refine r_all (SqL.of h) ?_
    rw [all_rep]
    exact k H' (e1.trans e)
theorem ok_is_kind {f : Addr} {fd : FuncData} (T : Tx K mg) (F : FnP K "is_kind" s_is_kind f fd) (d_is_number_in : Dn P w K mg base CX0 2 "is_number_in" ["value", "least", "most"] (sp_is_number_in K)) :
    FnOk P w K mg base CX0 3 f fd ["value"] sp_is_kind := by
  have sc : FnScope ["value"] ["value"] (defScope s_is_kind) := ⟨rfl, rfl, rfl, by decide +kernel, rfl, by decide +kernel, by decide +kernel⟩
  refine F.ok sc (by rintro vs H Q E ⟨_, _, _, rfl, _⟩; rfl) (fun cdv A outer s H vs Q E hr h => ⟨_, PSs.nox ((pss_cons (ps_if (PW.pt (pw_or (pt_not (pt_val (pe_callB (c_isiK (K := K) rfl) (by rfl) T.b_isinstance (by decide +kernel) (pa_cons (pv 0) (pa_cons (pe_bltn (v := .ty "tuple") (by rfl) T.b_tuple (by decide +kernel) rfl) pa_nil))))) (pw_or1 (pt_cmpR op_ne (pe_callB (c_lenK (K := K) rfl) (by rfl) T.b_len (by decide +kernel) (pa_cons (pv 0) pa_nil)) pe_int (nomark _))))) (pss_one (ps_ret pe_bl)) pss_nil)
      (pss_one (ps_ret (pe_and (pe_fn d_is_number_in (hr.mono (by decide)) pass0 (pa_cons (pe_ix (ix_tupK (K := K) rfl) (pv 0) pe_int (fun _ _ => rfl)) (pa_cons pe_int (pa_cons (pe_glob (v := .int 1000) (by rfl) T.c_MOST_RATE.choose_spec ⟨_, rfl⟩) pa_nil)))) (pe_one (pe_callB (c_isiK (K := K) rfl) (by rfl) T.b_isinstance (by decide +kernel) (pa_cons (pe_ix (ix_tupK (K := K) rfl) (pv 0) pe_int (fun _ _ => rfl)) (pa_cons (pe_bltn (v := .ty "bool") (by rfl) T.b_bool (by decide +kernel) rfl) pa_nil))))))))), ?_⟩)
  obtain ⟨t, r, b, rfl, ht, h0, h1, q⟩ := h
  walk_at "rd"
  refine r_lenT (SqT.of ht) ?_
  walk_at "rd"
  refine w_ndec (fun hne => absurd rfl hne) (fun _ => ?_)
  walk_at "rd"
  refine r_ixT (SqT.of ht) (at_get (n := 0) rfl rfl) ?_
  walk_at "rd"
  refine u_in ⟨h0, h1⟩ ?_
  walk_at "rd"
  refine r_ixT (SqT.of ht) (at_get (n := 1) rfl rfl) ?_
  walk_at "rd"
  exact q
theorem ok_are_kinds {f : Addr} {fd : FuncData} (T : Tx K mg) (F : FnP K "are_kinds" s_are_kinds f fd) (d_is_name : Dn P w K mg base CX0 1 "is_name" ["value"] sp_is_name) (d_is_kind : Dn P w K mg base CX0 3 "is_kind" ["value"] sp_is_kind) :
    FnOk P w K mg base CX0 4 f fd ["value"] sp_are_kinds := by
  have sc : FnScope ["value", "name"] ["value"] (defScope s_are_kinds) := ⟨rfl, rfl, rfl, by decide +kernel, rfl, by decide +kernel, by decide +kernel⟩
  refine F.ok sc (by rintro vs H Q E ⟨_, _, _, rfl, _⟩; rfl) (fun cdv A outer s H vs Q E hr h => ⟨_, PSs.nox ((pss_cons (ps_if (PW.pt (pw_or (pt_not (pt_val (pe_callB (c_isiK (K := K) rfl) (by rfl) T.b_isinstance (by decide +kernel) (pa_cons (pv 0) (pa_cons (pe_bltn (v := .ty "dict") (by rfl) T.b_dict (by decide +kernel) rfl) pa_nil))))) (pw_or1 (pt_not (pt_chain op_le op_le pe_int (pe_callB c_lenD (by rfl) T.b_len (by decide +kernel) (pa_cons (pv 0) pa_nil)) (pe_glob (v := .int 6) (by rfl) T.c_MOST_KINDS.choose_spec ⟨_, rfl⟩)))))) (pss_one (ps_ret pe_bl)) pss_nil)
      (pss_one (ps_ret (pe_callB (c_allK (K := K) rfl rfl) (by rfl) T.b_all (by decide +kernel) (pa_cons (pe_lock (pe_lc (own := [("name", 1)]) (by rfl) sc.nd (pi_keys (pv 0)) (blkOk_by (own := [("name", 1)]) (N := ["value", "name"]) (sc := defScope s_are_kinds) (by decide +kernel)) (fun _ _ _ _ _ => (pg_name (i := 1) sc.nd rfl (by first | exact Or.inl rfl | exact Or.inr rfl))) (fun _ _ _ _ _ => pts_nil) (fun _ _ _ _ _ => (pe_and (pe_fn d_is_name (hr.mono (by decide)) pass0 (pa_cons (pv 1) pa_nil)) (pe_one (pe_fn d_is_kind (hr.mono (by decide)) pass0 (pa_cons (pe_dget (hu_of hr) (pv 0) (pv 1) (fun _ _ => rfl)) pa_nil))))))) pa_nil)))))), ?_⟩)
  obtain ⟨a, kvs, ks, rfl, ha, hK, ok, k⟩ := h
  have hl := hK.len
  have h1 := ok.lo
  have h2 := ok.hi
  walk_at "rd"
  refine r_isiDict ha ?_
  walk_at "rd"
  refine r_lenD ha ?_
  walk_at "rd"
  refine r_kChain (fun _ => ?_) (fun hf => absurd (of_decide_eq_false hf) (by omega))
  walk_at "rd"
  refine w_no (by rw [decide_eq_true (by omega)]; rfl) ?_
  walk_at "rd"
  refine r_lockD ha fun od H1 hd1 ho1 hn1 => ?_
  walk_at "rd"
  refine r_kLcK hd1 (fun Da i H' => Same H1 H' ∧ H' Da = some (.lst ((List.replicate i true).map V.bl))) (fun Da H' _ e h => ⟨e, h⟩) (fun Da i H' h => h.1 _ _ hd1) ?_ ?_
  · rintro Da i key v H' hD hi ⟨e, h⟩
    obtain ⟨n, r, b, t, rfl, rfl, ht, hks⟩ := hK.get hi
    have hmem := List.mem_of_getElem? hks
    have hil := (List.getElem?_eq_some_iff.mp hks).1
    have nok : NameOk n := ok.nm.ok n (List.mem_map.mpr ⟨_, hmem, rfl⟩)
    obtain ⟨t', hv, ht'⟩ := hK.val ok.nm.nd hmem
    have hne : t' ≠ a := ne_of ht' ha (by intro z; cases z)
    walk_at "rd"
    refine ⟨n, rfl, nok, fun H2 e2 => ?_⟩
    walk_at "rd"
    refine r_kDGetF (e2 _ _ (e _ _ hd1)) hv ?_
    walk_at "rd"
    refine ⟨t', r, b, rfl, e2 _ _ (e _ _ (ho1 _ _ ht' hne)), (ok.rt _ hmem).1, (ok.rt _ hmem).2, ?_⟩
    refine r_kLcE (e2 _ _ h) (by rw [List.length_map, List.length_replicate]; omega) fun H3 b3 h3 => ⟨Same.mut (e.trans e2) b3 hD, ?_⟩
    rw [rep_more]
    exact h3
  · rintro Da H' hD ⟨e, h⟩
    walk_at "rd"
    have hDa : Da ≠ a := by
      rintro rfl
      rw [hd1] at hD
      cases hD
    refine r_kLock ha ho1 hd1 e fun H2 e2 k2 => ?_
    walk_at "rd"
    refine r_all (SqL.of (k2 _ _ h hDa)) ?_
    rw [all_rep]
    exact k H2 e2
end
end Wp
set_option Elab.async false
set_option linter.all false
set_option maxRecDepth 100000
set_option maxHeartbeats 4000000
namespace Wp
open PySem PySem.Spec PyProof.Rows L2
abbrev s_Book___init__ : Stmt := inClass (topS 29) 0
abbrev s_need_book : Stmt := topS 30
local macro_rules | `(tactic| walk_at "val") => `(tactic| assumption)
local macro_rules | `(tactic| walk_at "rd1") => `(tactic| first
  | with_reducible refine r_seq ?_ | with_reducible refine r_next ?_ | with_reducible refine r_if ?_ | with_reducible refine r_asg ?_ | with_reducible refine r_gname ?_
  | with_reducible refine r_ret ?_ | with_reducible refine r_retN ?_ | with_reducible refine r_drop ?_ | with_reducible refine r_par ?_ | with_reducible refine r_kPar ?_
  | ((with_reducible refine' r_var ?hv ?_); (case hv => exact rfl)) | with_reducible refine r_c ?_ | with_reducible refine r_nil ?_ | with_reducible refine r_cons ?_
  | with_reducible refine r_fn ?_ | with_reducible refine r_cb ?_ | with_reducible refine r_op ?_ | with_reducible refine r_un ?_ | with_reducible refine r_I0 ?_
  | with_reducible refine r_pow5 ?_ | with_reducible refine r_pow6 ?_ | with_reducible refine r_pow7 ?_ | with_reducible refine r_pow9 ?_ | with_reducible refine r_pow18 ?_ | with_reducible refine r_pow20 ?_ | with_reducible refine r_pow30 ?_
  | with_reducible refine r_isN_non ?_ | with_reducible refine r_isN_ref ?_ | with_reducible refine r_isN_int ?_ | with_reducible refine r_isN_str ?_ | with_reducible refine r_isN_bl ?_ | with_reducible refine r_notN_non ?_ | with_reducible refine r_notN_ref ?_ | with_reducible refine r_notN_int ?_ | with_reducible refine r_notN_str ?_ | with_reducible refine r_notN_bl ?_
  | ((with_reducible refine r_I ?hc ?_); (case hc => walk_at "side")) | with_reducible refine r_U ?_
  | with_reducible refine r_eqI ?_ | with_reducible refine r_neI ?_ | with_reducible refine r_eqS ?_ | with_reducible refine r_neS ?_ | with_reducible refine r_eqB ?_ | with_reducible refine r_neB ?_
  | with_reducible refine r_chain ?_ | with_reducible refine r_test ?_ | with_reducible refine r_tB ?_ | with_reducible refine r_kTest ?_ | with_reducible refine r_not ?_
  | with_reducible refine r_and ?_ | with_reducible refine r_or ?_ | with_reducible refine r_tif ?_ | with_reducible refine r_andV ?_ | with_reducible refine r_orV ?_ | with_reducible refine r_notV ?_
  | with_reducible refine r_kAndV ?_ | with_reducible refine r_kOrV ?_ | with_reducible refine r_kNotV ?_
  | with_reducible refine w_T ?_ | with_reducible refine w_F ?_ | with_reducible refine w_NT ?_ | with_reducible refine w_NF ?_
  | with_reducible refine r_tup ?_ | with_reducible refine r_lst ?_ | with_reducible refine r_fld ?_ | with_reducible refine r_prop ?_ | ((with_reducible refine' r_aug ?h1 ?_); (case h1 => exact rfl)) | with_reducible refine r_ipI ?_ | with_reducible refine r_dget ?_ | with_reducible refine r_dput ?_ | with_reducible refine r_bm ?_
  | ((with_reducible refine' r_kDGetS ?h1 ?h2 ?_); (case h1 => assumption); (case h2 => walk_at "val"))
  | ((with_reducible refine' r_kBML ?h1 ?_); (case h1 => assumption))
  | with_reducible refine r_forL ?_ | with_reducible refine r_forR1 ?_ | with_reducible refine r_forR2 ?_ | with_reducible refine r_forT ?_ | with_reducible refine r_lcL ?_ | with_reducible refine r_lcR1 ?_
  | ((with_reducible refine r_kLcG ?hw ?_); (case hw => exact rfl)) | with_reducible refine r_kLcT ?_ | with_reducible refine r_yes ?_
  | with_reducible refine r_pnil ?_ | with_reducible refine r_pcons ?_
  | with_reducible refine r_fnK ?_ | ((with_reducible refine r_kFnK ?hl ?_); (case hl => exact rfl))
  | with_reducible refine r_isi_ii ?_ | with_reducible refine r_isi_ib ?_ | with_reducible refine r_isi_bi ?_ | with_reducible refine r_isi_bb ?_ | with_reducible refine r_isi_ss ?_ | with_reducible refine r_isi_is ?_ | with_reducible refine r_isi_it ?_
  | ((with_reducible refine' r_isi_tt ?h1 ?_); (case h1 => assumption))
  | with_reducible refine r_sfld ?_ | with_reducible refine r_gnil ?_ | with_reducible refine r_gcons ?_
  | ((with_reducible refine' r_gtup ?h1 ?h2 ?_); (case h1 => exact SqT.of (by assumption)); (case h2 => exact rfl))
  | with_reducible refine r_sl ?_ | with_reducible refine r_noPart ?_ | with_reducible refine r_part ?_ | with_reducible refine r_kPart ?_ | with_reducible refine r_m1 ?_ | with_reducible refine r_kM1 ?_ | with_reducible refine r_forS ?_ | with_reducible refine r_lcS ?_ | with_reducible refine r_lcTu ?_ | with_reducible refine r_lcK ?_ | with_reducible refine r_dcL ?_ | with_reducible refine r_lenD ?_
  | ((with_reducible refine r_kDcG ?hw ?_); (case hw => exact rfl)) | with_reducible refine r_kDcT ?_
  | with_reducible refine r_meth ?_ | with_reducible refine r_dz ?_ | with_reducible refine r_revL ?_ | with_reducible refine r_star ?_ | with_reducible refine r_int1 ?_ | with_reducible refine r_int1b ?_ | with_reducible refine r_min2 ?_ | with_reducible refine r_max2 ?_)
local macro_rules | `(tactic| walk_at "rd") => `(tactic| repeat walk_at "rd1")
local macro_rules | `(tactic| walk_at "side") => `(tactic| first | assumption | exact Or.inr ⟨by decide, by decide⟩ | exact Or.inl ⟨by decide, by decide⟩ | (constructor <;> omega) | omega | decide | (refine Or.inl ⟨?_, ?_⟩ <;> omega) | (refine Or.inr ⟨?_, ?_⟩ <;> omega) | (refine ⟨?_, ?_, ?_⟩ <;> first | decide | omega))
/-- a list or a tuple of ints stands at a -/
def LsAt (H : Hp) (a : Addr) (ls : List Int) : Prop := H a = some (.lst (ls.map V.int)) ∨ H a = some (.tup (ls.map V.int))
theorem LsAt.keep {H H' : Hp} {a : Addr} {ls : List Int} (h : LsAt H a ls) (e : Same H H') : LsAt H' a ls := h.elim (fun h => .inl (e _ _ h)) fun h => .inr (e _ _ h)
theorem LsAt.seq {K : PySem.W.Frag} {H : Hp} {a : Addr} {ls : List Int} (h : LsAt H a ls) : SeqV K H a (ls.map V.int) := h.elim (fun h => .inl (SqL.of h)) fun h => .inr (SqT.of h)
/-- a book without an order of kinds -/
def sp_Book_init (C : Addr) : Sp := fun vs H Q _ => ∃ (p dx a kd : Addr) (B : Bk) (kvs : List (Key × V)), vs = [.ref p, .ref a, .int B.due, .ref kd, .int B.mem, .str B.beg, .non] ∧ B.Ok ∧ B.laid = none ∧ H p = some (.ins C dx []) ∧
  LsAt H a B.ls ∧ H kd = some (.dK kvs) ∧ KAt H kvs B.ks ∧ ∀ H' ks, But p H H' → ks.Perm B.ks → sortedS (ks.map (·.1)) = true → BookAt C H' p { B with ks := ks } → Q .non H'
def sp_Book (C : Addr) : Sp := fun vs H Q _ => ∃ (a kd : Addr) (B : Bk) (kvs : List (Key × V)), vs = [.ref a, .int B.due, .ref kd, .int B.mem, .str B.beg, .non] ∧ B.Ok ∧ B.laid = none ∧
  LsAt H a B.ls ∧ H kd = some (.dK kvs) ∧ KAt H kvs B.ks ∧ ∀ p H' ks, H p = none → Same H H' → ks.Perm B.ks → sortedS (ks.map (·.1)) = true → BookAt C H' p { B with ks := ks } → Q (.ref p) H'
def sp_Book5 (C : Addr) : Sp := fun vs H Q _ => ∃ (a kd : Addr) (B : Bk) (kvs : List (Key × V)), vs = [.ref a, .int B.due, .ref kd, .int B.mem, .str B.beg] ∧ B.Ok ∧ B.laid = none ∧
  LsAt H a B.ls ∧ H kd = some (.dK kvs) ∧ KAt H kvs B.ks ∧ ∀ p H' ks, H p = none → Same H H' → ks.Perm B.ks → sortedS (ks.map (·.1)) = true → BookAt C H' p { B with ks := ks } → Q (.ref p) H'
theorem KAt.keepT {H H' : Hp} {kvs : List (Key × V)} {ks : List (Str × Int × Bool)} (h : KAt H kvs ks) (e : Same H H') : KAt H' kvs ks := h.keep fun t xs q => e _ _ q
theorem imp_BookX {C : Addr} {dvs : List V} {vs : List V} {H : Hp} {Q : VK} {E : XK} {a kd : Addr} {B : Bk} {kvs : List (Key × V)} (ev : vs ++ dvs = [.ref a, .int B.due, .ref kd, .int B.mem, .str B.beg, .non]) (ok : B.Ok) (hl : B.laid = none) (ha : LsAt H a B.ls) (hk : H kd = some (.dK kvs)) (hK : KAt H kvs B.ks)
    (k : ∀ p H' ks, H p = none → Same H H' → ks.Perm B.ks → sortedS (ks.map (·.1)) = true → BookAt C H' p { B with ks := ks } → Q (.ref p) H') : spMk C (sp_Book_init C) dvs vs H Q E := by
  intro x dx nx nd ne
  have up : ∀ c o, H c = some o → upd (upd H dx (.own x)) x (.ins C dx []) c = some o := fun c o hc => by
    rw [upd_ne (ne_of_none hc nx), upd_ne (ne_of_none hc nd)]
    exact hc
  refine ⟨x, dx, a, kd, B, kvs, by rw [ev], ok, hl, upd_same, ha.keep up, up _ _ hk, hK.keepT up, fun H' ks b p1 p2 hB => ⟨rfl, k x H' ks nx (fun c o hc => ?_) p1 p2 hB⟩⟩
  exact b _ _ (up _ _ hc) (ne_of_none hc nx)
theorem imp_Book {C : Addr} (vs : List V) (H : Hp) (Q : VK) (E : XK) (h : sp_Book C vs H Q E) : spMk C (sp_Book_init C) [] vs H Q E := by
  obtain ⟨a, kd, B, kvs, rfl, ok, hl, ha, hk, hK, k⟩ := h
  exact imp_BookX (List.append_nil _) ok hl ha hk hK k
theorem imp_Book5 {C : Addr} (vs : List V) (H : Hp) (Q : VK) (E : XK) (h : sp_Book5 C vs H Q E) : spMk C (sp_Book_init C) [.non] vs H Q E := by
  obtain ⟨a, kd, B, kvs, rfl, ok, hl, ha, hk, hK, k⟩ := h
  exact imp_BookX rfl ok hl ha hk hK k
theorem pfl {f : Str} {v : V} : ∀ {fs : List (Str × V)} {n : Nat}, fs.length ≤ n → (putF f v fs).length ≤ n + 1
  | [], n, _ => by simp [putF]
  | (g, x) :: r, n, h => by
    unfold putF
    split
    · simp only [List.length_cons] at *
      omega
    · simp only [List.length_cons] at *
      have := pfl (f := f) (v := v) (fs := r) (n := n - 1) (by omega)
      omega
theorem pf0 : ([] : List (Str × V)).length ≤ 0 := Nat.le_refl _
theorem pf9 {n m : Nat} (h : n ≤ m) (hm : m < 1000 := by decide) : n < 1000 := by omega
def sp_need_book (C : Addr) : Sp := fun vs H Q _ => ∃ (p : Addr) (B : Bk), vs = [.ref p] ∧ BookAt C H p B ∧ Q .non H
/-- what the class must have for its fields -/
structure BkC (K : PySem.W.Frag) (C : Addr) : Prop where
  cl : Cls K C
  n1 : NoAttr K C "b_lengths"
  n2 : NoAttr K C "b_due"
  n3 : NoAttr K C "b_kinds"
  n4 : NoAttr K C "b_memory"
  n5 : NoAttr K C "b_begins"
  n6 : NoAttr K C "b_laid"
section
variable {P : Program} {w : World} {K : PySem.W.Frag} {mg : Str → Option Value} {base : Heap}
theorem ok_need_book {f : Addr} {fd : FuncData} (T : Tx K mg) (I_Book : C8.InsC K (He.ga K "Book")) (F : FnP K "need_book" s_need_book f fd) : FnOk P w K mg base CX0 1 f fd ["value"] (sp_need_book (He.ga K "Book")) := by
  have sc : FnScope ["value"] ["value"] (defScope s_need_book) := ⟨rfl, rfl, rfl, by decide +kernel, rfl, by decide +kernel, by decide +kernel⟩
  refine F.ok sc (by rintro vs H Q E ⟨_, _, rfl, _⟩; rfl) (fun cdv A outer s H vs Q E hr h => ⟨_, PSs.nox ((pss_one (ps_if (pt_not (pt_val (pe_callB (C8.call_isC I_Book) (by rfl) T.b_isinstance (by decide +kernel) (pa_cons (pv 0) (pa_cons (pe_glob (v := .ref (He.ga K "Book")) (by rfl) T.g_Book rfl) pa_nil))))) (pss_one ps_never) pss_nil))), ?_⟩)
  obtain ⟨p, B, rfl, ⟨dx, tl, kd, lv, kvs, hB⟩, q⟩ := h
  walk_at "rd"
  refine ⟨p, dx, _, rfl, hB.i, ?_⟩
  walk_at "rd"
  exact q
theorem ok_Book_init {f C : Addr} {fd : FuncData} (T : Tx K mg) (bc : BkC K C) (F : FunD K "__init__" "Book.__init__" (defArgs s_Book___init__) (defBody s_Book___init__) (defScope s_Book___init__) [.int 0, .str "day", .non] [] f fd)
    (d_is_number_in : Dn P w K mg base CX0 2 "is_number_in" ["value", "least", "most"] (sp_is_number_in K)) (d_are_lengths : Dn P w K mg base CX0 3 "are_lengths" ["value"] (sp_are_lengths K)) (d_are_kinds : Dn P w K mg base CX0 4 "are_kinds" ["value"] sp_are_kinds) :
    FnOk P w K mg base CX0 5 f fd ["self", "lengths", "due", "kinds", "memory", "begins", "laid"] (sp_Book_init C) := by
  have sc : FnScope ["self", "lengths", "due", "kinds", "memory", "begins", "laid", "name"] ["self", "lengths", "due", "kinds", "memory", "begins", "laid"] (defScope s_Book___init__) := ⟨rfl, rfl, rfl, by decide +kernel, rfl, by decide +kernel, by decide +kernel⟩
  refine F.ok sc (by rintro vs H Q E ⟨_, _, _, _, _, _, rfl, _⟩; rfl) (fun cdv A outer s H vs Q E hr h => ⟨_, PSs.nox ((pss_cons (ps_if (pt_not (pt_val (pe_fn d_are_lengths (hr.mono (by decide)) pass0 (pa_cons (pv 1) pa_nil)))) (pss_one ps_never) pss_nil)
      (pss_cons (ps_if (pt_not (pt_val (pe_fn d_is_number_in (hr.mono (by decide)) pass0 (pa_cons (pv 2) (pa_cons pe_int (pa_cons (pe_op op_sub (pe_callB (c_either (c_minK (K := K) rfl rfl) (c_minT (K := K) rfl rfl)) (by rfl) T.b_min (by decide +kernel) (pa_cons (pv 1) pa_nil)) pe_int) pa_nil)))))) (pss_one ps_never) pss_nil)
      (pss_cons (ps_if (pt_not (pt_val (pe_fn d_are_kinds (hr.mono (by decide)) pass0 (pa_cons (pv 3) pa_nil)))) (pss_one ps_never) pss_nil)
      (pss_cons (ps_if (pt_not (pt_val (pe_fn d_is_number_in (hr.mono (by decide)) pass0 (pa_cons (pv 4) (pa_cons pe_int (pa_cons (pe_glob (v := .int 2) (by rfl) T.c_MOST_MEMORY.choose_spec ⟨_, rfl⟩) pa_nil)))))) (pss_one ps_never) pss_nil)
      (pss_cons (ps_if (PW.pt (pw_or (pt_not (pt_val (pe_callB (c_isiK (K := K) rfl) (by rfl) T.b_isinstance (by decide +kernel) (pa_cons (pv 5) (pa_cons (pe_bltn (v := .ty "str") (by rfl) T.b_str (by decide +kernel) rfl) pa_nil))))) (pw_or1 (pt_cmpR (notIn_seqK (K := K) rfl) (pv 5) (pe_tup (pa_cons (pe_glob (v := .str "day") (by rfl) T.c_DAY.choose_spec ⟨_, rfl⟩) (pa_cons (pe_glob (v := .str "statement") (by rfl) T.c_STATEMENT.choose_spec ⟨_, rfl⟩) pa_nil))) (by rfl))))) (pss_one ps_never) pss_nil)
      (pss_cons (ps_if (PW.pt (pw_and (pt_cmpR op_notN1 (pv 6) pe_non (nomark _)) (pw_and1 pt_dead))) (pss_one ps_never) pss_nil)
      (pss_cons (ps_fldK (K := K) rfl (pv 0) (pe_callTy (c_tupleK (K := K) rfl) (by rfl) T.b_tuple (by decide +kernel) (pa_cons (pv 1) pa_nil)))
      (pss_cons (ps_fldK (K := K) rfl (pv 0) (pv 2))
      (pss_cons (ps_fldK (K := K) rfl (pv 0) (pe_dc (own := [("name", 7)]) (by rfl) sc.nd (pi_listK (K := K) rfl (pe_callB (c_sortedD rfl) (by rfl) T.b_sorted (by decide +kernel) (pa_cons (pv 3) pa_nil))) (blkOk_by (own := [("name", 7)]) (N := ["self", "lengths", "due", "kinds", "memory", "begins", "laid", "name"]) (sc := defScope s_Book___init__) (by decide +kernel)) (fun _ _ _ _ _ => (pg_name (i := 7) sc.nd rfl (by first | exact Or.inl rfl | exact Or.inr rfl))) (fun _ _ _ _ _ => pts_nil) (fun _ _ _ _ _ => (pv 7)) (fun _ _ _ _ _ => (pe_dget (hu_of hr) (pv 3) (pv 7) (fun _ _ => rfl)))))
      (pss_cons (ps_fldK (K := K) rfl (pv 0) (pv 4))
      (pss_cons (ps_fldK (K := K) rfl (pv 0) (pv 5))
      (pss_one (ps_fldK (K := K) rfl (pv 0) (pv 6))))))))))))))), ?_⟩)
  obtain ⟨p, dx, a, kd, B, kvs, rfl, ok, hlaid, hp, ha, hk, hK, k⟩ := h
  have hl1 := ok.l1
  walk_at "rd"
  refine ⟨a, B.ls, rfl, ha.seq, ok.l1, ok.l2, ok.l3, fun H1 e1 => ?_⟩
  walk_at "rd"
  refine r_minSeq (ha.keep e1).seq (by omega) fun m hm hmin => ?_
  have hdm := ok.d1 m hm
  walk_at "rd"
  refine u_in ⟨ok.d0, by omega⟩ ?_
  walk_at "rd"
  refine ⟨kd, kvs, B.ks, rfl, e1 _ _ hk, hK.keepT e1, ok.kn, fun H2 e2 => ?_⟩
  have e02 := e1.trans e2
  walk_at "rd"
  refine u_in ⟨ok.m0, ok.m1⟩ ?_
  walk_at "rd"
  refine r_kTup fun t H3 nt e3 ht => ?_
  have e03 := e02.trans e3
  refine r_notInTS (xs := ["day", "statement"]) (SqT.of ht) ?_
  have hb : B.beg ∈ (["day", "statement"] : List Str) := by
    rcases ok.bg with h | h <;> rw [h] <;> simp
  rw [decide_eq_true hb]
  walk_at "rd"
  refine r_tupOf (ha.keep e03) fun tl H4 e4 htl => ?_
  have e04 := e03.trans e4
  have ntp : ∀ {u : Addr} {xs : List V} {G : Hp} {fs : List (Str × V)}, G u = some (.tup xs) → G p = some (.ins C dx fs) → u ≠ p := fun h1 h2 => ne_of h1 h2 (by intro z; cases z)
  walk_at "rd"
  refine r_kSFld (e04 _ _ hp) bc.cl bc.n1 (by decide) fun H5 b5 h5 => ?_
  have htl5 := b5 _ _ htl (ntp htl (e04 _ _ hp))
  walk_at "rd"
  refine r_kSFld h5 bc.cl bc.n2 (pf9 (pfl pf0)) fun H6 b6 h6 => ?_
  have htl6 := b6 _ _ htl5 (ntp htl5 h5)
  have nkp : kd ≠ p := ne_of hk hp (by intro z; cases z)
  have hk6 := b6 _ _ (b5 _ _ (e04 _ _ hk) nkp) nkp
  have kp06 : But p H H6 := fun b o hb hn => b6 _ _ (b5 _ _ (e04 _ _ hb) hn) hn
  have hK6 : KAt H6 kvs B.ks := by
    refine hK.keep fun u xs hu => kp06 _ _ hu (ntp hu hp)
  have hlen : B.ks.length < 64 := by
    have := ok.kn.hi
    omega
  walk_at "rd"
  refine r_sortedD (ks := B.ks.map (·.1)) hk6 hK6.keys (by rw [List.length_map]; exact hlen) fun ys q H7 py sy nq e7 hq => ?_
  obtain ⟨ms, pm, em⟩ := perm_lift (·.1) ys B.ks py
  have hk7 := e7 _ _ hk6
  have hK7 := hK6.keepT e7
  have nd := ok.kn.nm.nd
  have ndm : (ms.map (·.1)).Nodup := (pm.map (·.1)).nodup_iff.mpr nd
  have lm : ms.length ≤ 6 := by
    rw [pm.length_eq]
    exact ok.kn.hi
  have eys : ys.map V.str = ms.map fun m => V.str m.1 := by rw [← em, List.map_map]; rfl
  walk_at "rd"
  refine r_kDcL (xs := ys.map V.str) (SqL.of hq) (fun Da i H' => Same H7 H' ∧ ∃ kv, H' Da = some (.dK kv) ∧ KAt H' kv (ms.take i)) (fun Da H' _ e h => ⟨e, [], h, .nil⟩) (fun Da i H' h => SqL.of (h.1 _ _ hq)) ?_ ?_
  · rintro Da i y H' hD hy ⟨e8, kv, hDa, hkv⟩
    rw [eys] at hy
    obtain ⟨mm, hm, rfl⟩ : ∃ mm, ms[i]? = some mm ∧ y = V.str mm.1 := by
      rw [List.getElem?_map] at hy
      obtain ⟨mm, h1, h2⟩ := Option.map_eq_some_iff.mp hy
      exact ⟨mm, h1, h2.symm⟩
    obtain ⟨n, r, b⟩ := mm
    have hil := (List.getElem?_eq_some_iff.mp hm).1
    obtain ⟨t', hv, ht'⟩ := hK7.val nd (pm.mem_iff.mp (List.mem_of_getElem? hm))
    have hfresh : n ∉ (ms.take i).map (·.1) := fun z => by
      have e : ms.take (i + 1) = ms.take i ++ [(n, r, b)] := take_more hm
      have nd2 : ((ms.take (i + 1)).map (·.1)).Nodup := (ndm.sublist ((List.take_sublist _ _).map _))
      rw [e, List.map_append, List.nodup_append] at nd2
      exact nd2.2.2 n z n (by simp) rfl
    walk_at "rd"
    refine r_kDGetS (e8 _ _ hk7) hv ?_
    refine r_kDcE (kx := Sum.inr n) hDa (by rw [hkv.len, List.length_take]; omega) fun H9 b9 h9 => ?_
    rw [putK_new _ (hkv.fresh hfresh)] at h9
    have kp9 : ∀ u xs, H' u = some (.tup xs) → H9 u = some (.tup xs) := fun u xs hu => b9 _ _ hu (ne_of hu hDa (by intro z; cases z))
    refine ⟨Same.mut e8 b9 hD, _, h9, ?_⟩
    rw [take_more hm]
    exact (hkv.keep kp9).snoc (kp9 _ _ (e8 _ _ ht'))
  · rintro Da H8 hD ⟨e8, kv, hDa, hkv⟩
    have hfull : ms.take (ys.map V.str).length = ms := by
      rw [eys, List.length_map]
      exact List.take_length
    rw [hfull] at hkv
    have h8 := e8 _ _ (e7 _ _ h6)
    have ntD : Da ≠ p := ne_of hDa h8 (by intro z; cases z)
    walk_at "rd"
    refine r_kSFld h8 bc.cl bc.n3 (pf9 (pfl (pfl pf0))) fun H9 b9 h9 => ?_
    walk_at "rd"
    refine r_kSFld h9 bc.cl bc.n4 (pf9 (pfl (pfl (pfl pf0)))) fun H10 b10 h10 => ?_
    walk_at "rd"
    refine r_kSFld h10 bc.cl bc.n5 (pf9 (pfl (pfl (pfl (pfl pf0))))) fun H11 b11 h11 => ?_
    walk_at "rd"
    refine r_kSFld h11 bc.cl bc.n6 (pf9 (pfl (pfl (pfl (pfl (pfl pf0)))))) fun H12 b12 h12 => ?_
    have kp : But p H8 H12 := fun b o hb hn => b12 _ _ (b11 _ _ (b10 _ _ (b9 _ _ hb hn) hn) hn) hn
    have kpt : But p H H12 := fun b o hb hn => kp _ _ (e8 _ _ (e7 _ _ (kp06 _ _ hb hn))) hn
    have htl8 := e8 _ _ (e7 _ _ htl6)
    refine k H12 ms kpt pm (by rw [em]; exact sy) ⟨dx, tl, Da, .non, kv, ⟨h12, kp _ _ htl8 (ntp htl8 h8), kp _ _ hDa ntD, hkv.keep fun u xs hu => kp _ _ hu (ntp hu h8), ?_⟩⟩
    show LaidV H12 B.laid .non
    rw [hlaid]
    rfl
end
end Wp
set_option Elab.async false
set_option linter.all false
set_option maxRecDepth 100000
set_option maxHeartbeats 4000000
namespace Wp
open PySem PySem.Spec PyProof.Rows L2
abbrev s_Book_parts_told : Stmt := inClass (topS 29) 8
abbrev s_Book_with_part : Stmt := inClass (topS 29) 9
abbrev s_Book_first_at : Stmt := inClass (topS 29) 13
abbrev s_Book_due_at : Stmt := inClass (topS 29) 14
local macro_rules | `(tactic| walk_at "val") => `(tactic| assumption)
local macro_rules | `(tactic| walk_at "rd1") => `(tactic| first
  | with_reducible refine r_seq ?_ | with_reducible refine r_next ?_ | with_reducible refine r_if ?_ | with_reducible refine r_asg ?_ | with_reducible refine r_gname ?_
  | with_reducible refine r_ret ?_ | with_reducible refine r_retN ?_ | with_reducible refine r_drop ?_ | with_reducible refine r_par ?_ | with_reducible refine r_kPar ?_
  | ((with_reducible refine' r_var ?hv ?_); (case hv => exact rfl)) | with_reducible refine r_c ?_ | with_reducible refine r_nil ?_ | with_reducible refine r_cons ?_
  | with_reducible refine r_fn ?_ | with_reducible refine r_cb ?_ | with_reducible refine r_op ?_ | with_reducible refine r_un ?_ | with_reducible refine r_I0 ?_
  | with_reducible refine r_pow5 ?_ | with_reducible refine r_pow6 ?_ | with_reducible refine r_pow7 ?_ | with_reducible refine r_pow9 ?_ | with_reducible refine r_pow18 ?_ | with_reducible refine r_pow20 ?_ | with_reducible refine r_pow30 ?_
  | with_reducible refine r_isN_non ?_ | with_reducible refine r_isN_ref ?_ | with_reducible refine r_isN_int ?_ | with_reducible refine r_isN_str ?_ | with_reducible refine r_isN_bl ?_ | with_reducible refine r_notN_non ?_ | with_reducible refine r_notN_ref ?_ | with_reducible refine r_notN_int ?_ | with_reducible refine r_notN_str ?_ | with_reducible refine r_notN_bl ?_
  | ((with_reducible refine r_I ?hc ?_); (case hc => walk_at "side")) | with_reducible refine r_U ?_
  | with_reducible refine r_eqI ?_ | with_reducible refine r_neI ?_ | with_reducible refine r_eqS ?_ | with_reducible refine r_neS ?_ | with_reducible refine r_eqB ?_ | with_reducible refine r_neB ?_
  | with_reducible refine r_chain ?_ | with_reducible refine r_test ?_ | with_reducible refine r_tB ?_ | with_reducible refine r_kTest ?_ | with_reducible refine r_not ?_
  | with_reducible refine r_and ?_ | with_reducible refine r_or ?_ | with_reducible refine r_tif ?_ | with_reducible refine r_andV ?_ | with_reducible refine r_orV ?_ | with_reducible refine r_notV ?_
  | with_reducible refine r_kAndV ?_ | with_reducible refine r_kOrV ?_ | with_reducible refine r_kNotV ?_
  | with_reducible refine w_T ?_ | with_reducible refine w_F ?_ | with_reducible refine w_NT ?_ | with_reducible refine w_NF ?_
  | with_reducible refine r_tup ?_ | with_reducible refine r_lst ?_ | with_reducible refine r_fld ?_ | with_reducible refine r_prop ?_ | ((with_reducible refine' r_aug ?h1 ?_); (case h1 => exact rfl)) | with_reducible refine r_ipI ?_ | with_reducible refine r_dget ?_ | with_reducible refine r_dput ?_ | with_reducible refine r_bm ?_
  | ((with_reducible refine' r_kDGetS ?h1 ?h2 ?_); (case h1 => assumption); (case h2 => walk_at "val"))
  | ((with_reducible refine' r_kBML ?h1 ?_); (case h1 => assumption))
  | with_reducible refine r_forL ?_ | with_reducible refine r_forR1 ?_ | with_reducible refine r_forR2 ?_ | with_reducible refine r_forT ?_ | with_reducible refine r_lcL ?_ | with_reducible refine r_lcR1 ?_
  | ((with_reducible refine r_kLcG ?hw ?_); (case hw => exact rfl)) | with_reducible refine r_kLcT ?_ | with_reducible refine r_yes ?_
  | with_reducible refine r_pnil ?_ | with_reducible refine r_pcons ?_
  | with_reducible refine r_fnK ?_ | ((with_reducible refine r_kFnK ?hl ?_); (case hl => exact rfl))
  | with_reducible refine r_isi_ii ?_ | with_reducible refine r_isi_ib ?_ | with_reducible refine r_isi_bi ?_ | with_reducible refine r_isi_bb ?_ | with_reducible refine r_isi_ss ?_ | with_reducible refine r_isi_is ?_ | with_reducible refine r_isi_it ?_
  | ((with_reducible refine' r_isi_tt ?h1 ?_); (case h1 => assumption))
  | with_reducible refine r_sfld ?_ | with_reducible refine r_gnil ?_ | with_reducible refine r_gcons ?_
  | ((with_reducible refine' r_gtup ?h1 ?h2 ?_); (case h1 => exact SqT.of (by assumption)); (case h2 => exact rfl))
  | with_reducible refine r_sl ?_ | with_reducible refine r_noPart ?_ | with_reducible refine r_part ?_ | with_reducible refine r_kPart ?_ | with_reducible refine r_m1 ?_ | with_reducible refine r_kM1 ?_ | with_reducible refine r_forS ?_ | with_reducible refine r_lcS ?_ | with_reducible refine r_lcTu ?_ | with_reducible refine r_lcK ?_ | with_reducible refine r_dcL ?_ | with_reducible refine r_lenD ?_
  | ((with_reducible refine r_kDcG ?hw ?_); (case hw => exact rfl)) | with_reducible refine r_kDcT ?_
  | with_reducible refine r_meth ?_ | with_reducible refine r_dz ?_ | with_reducible refine r_revL ?_ | with_reducible refine r_star ?_ | with_reducible refine r_int1 ?_ | with_reducible refine r_int1b ?_ | with_reducible refine r_min2 ?_ | with_reducible refine r_max2 ?_)
local macro_rules | `(tactic| walk_at "rd") => `(tactic| repeat walk_at "rd1")
local macro_rules | `(tactic| walk_at "side") => `(tactic| first | assumption | exact Or.inr ⟨by decide, by decide⟩ | exact Or.inl ⟨by decide, by decide⟩ | (constructor <;> omega) | omega | decide | (refine Or.inl ⟨?_, ?_⟩ <;> omega) | (refine Or.inr ⟨?_, ?_⟩ <;> omega) | (refine ⟨?_, ?_, ?_⟩ <;> first | decide | omega))
local macro_rules | `(tactic| walk_at "val") => `(tactic| first | exact wv1 | exact wv2 | exact wv3 | exact wv4 | exact wv5 | exact wv6)
def sp_parts_told (C : Addr) : Sp := fun vs H Q _ => ∃ (p dx tl kd : Addr) (B : Bk) (lv : V) (kvs : List (Key × V)), vs = [.ref p] ∧ BookIn C H p B dx tl kd lv kvs ∧
  ∀ t H', H t = none → Same H H' → H' t = some (.tup [.ref tl, .int B.due, .ref kd, .int B.mem, .str B.beg, lv]) → Q (.ref t) H'
/-- what a part put otherwise makes of a book -/
inductive WP (H : Hp) (B : Bk) : Str → V → Bk → Prop
  | ls {a : Addr} {ls : List Int} : LsAt H a ls → WP H B "lengths" (.ref a) { B with ls := ls }
  | due (d : Int) : WP H B "due" (.int d) { B with due := d }
  | ks {a : Addr} {kvs : List (Key × V)} {ks : List (Str × Int × Bool)} : H a = some (.dK kvs) → KAt H kvs ks → WP H B "kinds" (.ref a) { B with ks := ks }
  | mem (m : Int) : WP H B "memory" (.int m) { B with mem := m }
  | beg (s : Str) : WP H B "begins" (.str s) { B with beg := s }
theorem WP.keep {H H' : Hp} {B B' : Bk} {n : Str} {v : V} (h : WP H B n v B') (e : Same H H') : WP H' B n v B' := by
  cases h with
  | ls h => exact .ls (h.keep e)
  | due d => exact .due d
  | ks h1 h2 => exact .ks (e _ _ h1) (h2.keepT e)
  | mem m => exact .mem m
  | beg s => exact .beg s
theorem WP.laid {H : Hp} {B B' : Bk} {n : Str} {v : V} (h : WP H B n v B') : B'.laid = B.laid := by cases h <;> rfl
theorem WP.name {H : Hp} {B B' : Bk} {n : Str} {v : V} (h : WP H B n v B') : n ∈ (["lengths", "due", "kinds", "memory", "begins", "laid"] : List Str) := by cases h <;> simp
def sp_with_part (C : Addr) : Sp := fun vs H Q _ => ∃ (p : Addr) (B B' : Bk) (n : Str) (v : V), vs = [.ref p, .str n, v] ∧ BookAt C H p B ∧ B.laid = none ∧ WP H B n v B' ∧ B'.Ok ∧
  ∀ q H' ks, H q = none → Same H H' → ks.Perm B'.ks → sortedS (ks.map (·.1)) = true → BookAt C H' q { B' with ks := ks } → Q (.ref q) H'
def sp_first_at (C : Addr) : Sp := fun vs H Q _ => ∃ (p : Addr) (B : Bk) (m : Int), vs = [.ref p, .int m] ∧ BookAt C H p B ∧ B.Ok ∧ ∀ H', Same H H' → Q (.int (B.first m)) H'
def sp_due_at (C : Addr) : Sp := fun vs H Q _ => ∃ (p : Addr) (B : Bk) (m : Int), vs = [.ref p, .int m] ∧ BookAt C H p B ∧ B.Ok ∧ ∀ H', Same H H' → Q (.int (B.first (m + 1) + B.due)) H'
section
variable {P : Program} {w : World} {K : PySem.W.Frag} {mg : Str → Option Value} {base : Heap}
theorem ok_Book_parts_told {f C : Addr} {fd : FuncData} (T : Tx K mg) (bc : BkC K C) (F : FunD K "parts_told" "Book.parts_told" (defArgs s_Book_parts_told) (defBody s_Book_parts_told) (defScope s_Book_parts_told) [] [] f fd) :
    FnOk P w K mg base CX0 1 f fd ["self"] (sp_parts_told C) := by
  have sc : FnScope ["self"] ["self"] (defScope s_Book_parts_told) := ⟨rfl, rfl, rfl, by decide +kernel, rfl, by decide +kernel, by decide +kernel⟩
  refine F.ok sc (by rintro vs H Q E ⟨_, _, _, _, _, _, _, rfl, _⟩; rfl) (fun cdv A outer s H vs Q E hr h => ⟨_, PSs.nox ((pss_one (ps_ret (pe_tup (pa_cons (pe_fldK (K := K) rfl (pv 0)) (pa_cons (pe_fldK (K := K) rfl (pv 0)) (pa_cons (pe_fldK (K := K) rfl (pv 0)) (pa_cons (pe_fldK (K := K) rfl (pv 0)) (pa_cons (pe_fldK (K := K) rfl (pv 0)) (pa_cons (pe_fldK (K := K) rfl (pv 0)) pa_nil)))))))))), ?_⟩)
  obtain ⟨p, dx, tl, kd, B, lv, kvs, rfl, hB, k⟩ := h
  walk_at "rd"
  refine r_kFld hB.i bc.cl bc.n1 rfl ?_
  walk_at "rd"
  refine r_kFld hB.i bc.cl bc.n2 rfl ?_
  walk_at "rd"
  refine r_kFld hB.i bc.cl bc.n3 rfl ?_
  walk_at "rd"
  refine r_kFld hB.i bc.cl bc.n4 rfl ?_
  walk_at "rd"
  refine r_kFld hB.i bc.cl bc.n5 rfl ?_
  walk_at "rd"
  refine r_kFld hB.i bc.cl bc.n6 rfl ?_
  walk_at "rd"
  exact r_kTup k
theorem ok_Book_with_part {f C : Addr} {fd : FuncData} (T : Tx K mg) (F : FunD K "with_part" "Book.with_part" (defArgs s_Book_with_part) (defBody s_Book_with_part) (defScope s_Book_with_part) [] [] f fd)
    (mt_Book_parts_told : Dm P w K mg base CX0 1 C "parts_told" (sp_parts_told C)) (mk_Book : Dc P w K mg base CX0 5 "Book" (sp_Book C)) :
    FnOk P w K mg base CX0 7 f fd ["self", "part", "value"] (sp_with_part C) := by
  have sc : FnScope ["self", "part", "value", "found"] ["self", "part", "value"] (defScope s_Book_with_part) := ⟨rfl, rfl, rfl, by decide +kernel, rfl, by decide +kernel, by decide +kernel⟩
  refine F.ok sc (by rintro vs H Q E ⟨_, _, _, _, _, rfl, _⟩; rfl) (fun cdv A outer s H vs Q E hr h => ⟨_, PSs.nox ((pss_cons (ps_if (PW.pt (pw_or (pt_not (pt_val (pe_callB (c_isiK (K := K) rfl) (by rfl) T.b_isinstance (by decide +kernel) (pa_cons (pv 1) (pa_cons (pe_bltn (v := .ty "str") (by rfl) T.b_str (by decide +kernel) rfl) pa_nil))))) (pw_or1 (pt_cmpR (notIn_seqK (K := K) rfl) (pv 1) (pe_glob (v := .ref (He.ga K "PARTS")) (by rfl) T.g_PARTS rfl) (by rfl))))) (pss_one ps_never) pss_nil)
      (pss_cons (ps_set (i := 3) sc.nd rfl (by first | exact Or.inl rfl | exact Or.inr rfl) (pe_dictZip (K := K) rfl (by rfl) (by rfl) T.b_dict (by rfl) T.b_zip (pa_cons (pe_glob (v := .ref (He.ga K "PARTS")) (by rfl) T.g_PARTS rfl) (pa_cons (pe_mt0 mt_Book_parts_told (hr.mono (by decide)) pass0 (pv 0)) pa_nil))))
      (Evl.pss_cut (ps_dput (hu_of hr) (pv 3) (pv 1) (pv 2) rfl)
      (pss_one (ps_ret (pe_mk mk_Book (hr.mono (by decide)) pass0 (pa_cons (pe_dget (hu_of hr) (pv 3) pe_str (fun _ _ => rfl)) (pa_cons (pe_dget (hu_of hr) (pv 3) pe_str (fun _ _ => rfl)) (pa_cons (pe_dget (hu_of hr) (pv 3) pe_str (fun _ _ => rfl)) (pa_cons (pe_dget (hu_of hr) (pv 3) pe_str (fun _ _ => rfl)) (pa_cons (pe_dget (hu_of hr) (pv 3) pe_str (fun _ _ => rfl)) (pa_cons (pe_dget (hu_of hr) (pv 3) pe_str (fun _ _ => rfl)) pa_nil))))))))))))), ?_⟩)
  obtain ⟨p, B, B', n, v, rfl, ⟨dx, tl, kd, lv, kvs, hB⟩, hlaid, hW, ok', k⟩ := h
  have hlv : lv = .non := by
    have h := hB.d
    rw [hlaid] at h
    exact h
  subst hlv
  walk_at "rd"
  refine r_notInTS (xs := ["lengths", "due", "kinds", "memory", "begins", "laid"]) (T.t_PARTS H) ?_
  rw [decide_eq_true hW.name]
  walk_at "rd"
  refine r_kMeth hB.i rfl ?_
  walk_at "rd"
  refine ⟨p, dx, tl, kd, B, _, kvs, rfl, hB, fun t H1 nt e1 ht => ?_⟩
  walk_at "rd"
  refine r_kDZ (ks := wks) (T.t_PARTS H1) (SqT.of ht) rfl (by decide) wks_nd fun d H2 nd e2 hd => ?_
  rw [wz_zip] at hd
  have e02 := e1.trans e2
  have nd0 : H d = none := e1.free nd
  walk_at "rd"
  refine r_cut (fun σ' H' => σ' = [some (.ref p), some (.str n), some v, some (.ref d)] ∧ Same H H' ∧ ∃ (a' kd' : Addr) (kvs' : List (Key × V)), H' d = some (.dK (wkv (.ref a') (.int B'.due) (.ref kd') (.int B'.mem) (.str B'.beg) .non)) ∧ LsAt H' a' B'.ls ∧ H' kd' = some (.dK kvs') ∧ KAt H' kvs' B'.ks) ?_ ?_
  · walk_at "rd"
    refine r_kDPutS hd (show 6 < 1000000 by decide) fun H3 b3 h3 => ?_
    have e03 : Same H H3 := Same.mut e02 b3 nd0
    have hB3 := hB.keep e03
    have hl3 : LsAt H3 tl B.ls := .inr hB3.l
    refine ⟨rfl, e03, ?_⟩
    cases hW with
    | ls h =>
      rw [wp1] at h3
      exact ⟨_, kd, kvs, h3, h.keep e03, hB3.k, hB3.a⟩
    | due d' =>
      rw [wp2] at h3
      exact ⟨tl, kd, kvs, h3, hl3, hB3.k, hB3.a⟩
    | ks h1 h2 =>
      rw [wp3] at h3
      exact ⟨tl, _, _, h3, hl3, e03 _ _ h1, h2.keepT e03⟩
    | mem m =>
      rw [wp4] at h3
      exact ⟨tl, kd, kvs, h3, hl3, hB3.k, hB3.a⟩
    | beg s =>
      rw [wp5] at h3
      exact ⟨tl, kd, kvs, h3, hl3, hB3.k, hB3.a⟩
  rintro σ' H3 ⟨rfl, e03, a', kd', kvs', hd3, ha', hkd', hK'⟩
  walk_at "rd"
  exact ⟨a', kd', B', kvs', rfl, ok', hW.laid.trans hlaid, ha', hkd', hK', fun q H4 ks nq e4 p1 p2 hB4 => k q H4 ks (e03.free nq) (e03.trans e4) p1 p2 hB4⟩
theorem ok_Book_first_at {f C : Addr} {fd : FuncData} (T : Tx K mg) (bc : BkC K C) (F : FunD K "first_at" "Book.first_at" (defArgs s_Book_first_at) (defBody s_Book_first_at) (defScope s_Book_first_at) [] [] f fd) :
    FnOk P w K mg base CX0 1 f fd ["self", "month"] (sp_first_at C) := by
  have sc : FnScope ["self", "month", "many"] ["self", "month"] (defScope s_Book_first_at) := ⟨rfl, rfl, rfl, by decide +kernel, rfl, by decide +kernel, by decide +kernel⟩
  refine F.ok sc (by rintro vs H Q E ⟨_, _, _, rfl, _⟩; rfl) (fun cdv A outer s H vs Q E hr h => ⟨_, PSs.nox ((pss_cons (ps_set (i := 2) sc.nd rfl (by first | exact Or.inl rfl | exact Or.inr rfl) (pe_callB (c_lenK (K := K) rfl) (by rfl) T.b_len (by decide +kernel) (pa_cons (pe_fldK (K := K) rfl (pv 0)) pa_nil)))
      (pss_one (ps_ret (pe_op op_add (pe_op op_mul (pe_op op_fdiv (pv 1) (pv 2)) (pe_callB (c_sumT (K := K) rfl rfl) (by rfl) T.b_sum (by decide +kernel) (pa_cons (pe_fldK (K := K) rfl (pv 0)) pa_nil))) (pe_callB (c_sumT (K := K) rfl rfl) (by rfl) T.b_sum (by decide +kernel) (pa_cons (pe_slice (sl_tupK (K := K) rfl) (pe_fldK (K := K) rfl (pv 0)) po_none (po_some (pe_op op_mod (pv 1) (pv 2)))) pa_nil))))))), ?_⟩)
  obtain ⟨p, B, m, rfl, ⟨dx, tl, kd, lv, kvs, hB⟩, ok, k⟩ := h
  have l1 := ok.l1
  have l2 := ok.l2
  have hm0 := Int.emod_nonneg m (b := (B.ls.length : Int)) (by omega)
  have hm1 := Int.emod_lt_of_pos m (b := (B.ls.length : Int)) (by omega)
  have hsum : 0 ≤ B.ls.sum ∧ B.ls.sum ≤ 1000000 := by
    have h3 := ok.l3
    generalize B.ls = l at *
    have : ∀ l : List Int, (∀ n ∈ l, 2 ≤ n ∧ n ≤ 31) → 0 ≤ l.sum ∧ l.sum ≤ 31 * (l.length : Int) := by
      intro l
      induction l with
      | nil => intro _; simp
      | cons a r ih =>
        intro h
        have h1 := ih fun n hn => h n (List.mem_cons_of_mem _ hn)
        have h2 := h a (List.mem_cons_self ..)
        simp only [List.sum_cons, List.length_cons]
        omega
    have := this l h3
    omega
  walk_at "rd"
  refine r_kFld hB.i bc.cl bc.n1 rfl ?_
  walk_at "rd"
  refine r_lenT (SqT.of hB.l) ?_
  rw [List.length_map]
  walk_at "rd"
  refine r_kFld hB.i bc.cl bc.n1 rfl ?_
  walk_at "rd"
  refine r_sumT (SqT.of hB.l) ?_
  walk_at "rd"
  refine r_kFld hB.i bc.cl bc.n1 rfl ?_
  walk_at "rd"
  refine r_slT_take (SqT.of hB.l) hm0 (by rw [List.length_map]; exact hm1) fun t H1 nt e1 ht => ?_
  rw [← List.map_take] at ht
  walk_at "rd"
  refine r_sumT (SqT.of ht) ?_
  walk_at "rd"
  exact k H1 e1
theorem ok_Book_due_at {f C : Addr} {fd : FuncData} (T : Tx K mg) (bc : BkC K C) (F : FunD K "due_at" "Book.due_at" (defArgs s_Book_due_at) (defBody s_Book_due_at) (defScope s_Book_due_at) [] [] f fd)
    (mt_Book_first_at : Dm P w K mg base CX0 1 C "first_at" (sp_first_at C)) :
    FnOk P w K mg base CX0 2 f fd ["self", "month"] (sp_due_at C) := by
  have sc : FnScope ["self", "month"] ["self", "month"] (defScope s_Book_due_at) := ⟨rfl, rfl, rfl, by decide +kernel, rfl, by decide +kernel, by decide +kernel⟩
  refine F.ok sc (by rintro vs H Q E ⟨_, _, _, rfl, _⟩; rfl) (fun cdv A outer s H vs Q E hr h => ⟨_, PSs.nox ((pss_one (ps_ret (pe_op op_add (pe_mt mt_Book_first_at (hr.mono (by decide)) pass0 (pv 0) (pa_cons (pe_op op_add (pv 1) pe_int) pa_nil)) (pe_fldK (K := K) rfl (pv 0)))))), ?_⟩)
  obtain ⟨p, B, m, rfl, ⟨dx, tl, kd, lv, kvs, hB⟩, ok, k⟩ := h
  walk_at "rd"
  refine r_kMeth hB.i rfl ?_
  walk_at "rd"
  refine ⟨p, B, m + 1, rfl, ⟨dx, tl, kd, lv, kvs, hB⟩, ok, fun H1 e1 => ?_⟩
  walk_at "rd"
  refine r_kFld (hB.keep e1).i bc.cl bc.n2 rfl ?_
  walk_at "rd"
  exact k H1 e1
end
end Wp
set_option Elab.async false
set_option linter.all false
set_option maxRecDepth 100000
set_option maxHeartbeats 4000000
namespace Wp
open PySem PySem.Spec PyProof.Rows L2
abbrev s_Book_rate_of : Stmt := inClass (topS 29) 10
abbrev s_Book_is_free : Stmt := inClass (topS 29) 11
abbrev s_Book_lengths : Stmt := inClass (topS 29) 1
abbrev s_Book_due : Stmt := inClass (topS 29) 2
abbrev s_Book_kinds : Stmt := inClass (topS 29) 3
abbrev s_Book_memory : Stmt := inClass (topS 29) 4
abbrev s_Book_begins : Stmt := inClass (topS 29) 5
abbrev s_Book_laid : Stmt := inClass (topS 29) 6
local macro_rules | `(tactic| walk_at "val") => `(tactic| assumption)
local macro_rules | `(tactic| walk_at "rd1") => `(tactic| first
  | with_reducible refine r_seq ?_ | with_reducible refine r_next ?_ | with_reducible refine r_if ?_ | with_reducible refine r_asg ?_ | with_reducible refine r_gname ?_
  | with_reducible refine r_ret ?_ | with_reducible refine r_retN ?_ | with_reducible refine r_drop ?_ | with_reducible refine r_par ?_ | with_reducible refine r_kPar ?_
  | ((with_reducible refine' r_var ?hv ?_); (case hv => exact rfl)) | with_reducible refine r_c ?_ | with_reducible refine r_nil ?_ | with_reducible refine r_cons ?_
  | with_reducible refine r_fn ?_ | with_reducible refine r_cb ?_ | with_reducible refine r_op ?_ | with_reducible refine r_un ?_ | with_reducible refine r_I0 ?_
  | with_reducible refine r_pow5 ?_ | with_reducible refine r_pow6 ?_ | with_reducible refine r_pow7 ?_ | with_reducible refine r_pow9 ?_ | with_reducible refine r_pow18 ?_ | with_reducible refine r_pow20 ?_ | with_reducible refine r_pow30 ?_
  | with_reducible refine r_isN_non ?_ | with_reducible refine r_isN_ref ?_ | with_reducible refine r_isN_int ?_ | with_reducible refine r_isN_str ?_ | with_reducible refine r_isN_bl ?_ | with_reducible refine r_notN_non ?_ | with_reducible refine r_notN_ref ?_ | with_reducible refine r_notN_int ?_ | with_reducible refine r_notN_str ?_ | with_reducible refine r_notN_bl ?_
  | ((with_reducible refine r_I ?hc ?_); (case hc => walk_at "side")) | with_reducible refine r_U ?_
  | with_reducible refine r_eqI ?_ | with_reducible refine r_neI ?_ | with_reducible refine r_eqS ?_ | with_reducible refine r_neS ?_ | with_reducible refine r_eqB ?_ | with_reducible refine r_neB ?_
  | with_reducible refine r_chain ?_ | with_reducible refine r_test ?_ | with_reducible refine r_tB ?_ | with_reducible refine r_kTest ?_ | with_reducible refine r_not ?_
  | with_reducible refine r_and ?_ | with_reducible refine r_or ?_ | with_reducible refine r_tif ?_ | with_reducible refine r_andV ?_ | with_reducible refine r_orV ?_ | with_reducible refine r_notV ?_
  | with_reducible refine r_kAndV ?_ | with_reducible refine r_kOrV ?_ | with_reducible refine r_kNotV ?_
  | with_reducible refine w_T ?_ | with_reducible refine w_F ?_ | with_reducible refine w_NT ?_ | with_reducible refine w_NF ?_
  | with_reducible refine r_tup ?_ | with_reducible refine r_lst ?_ | with_reducible refine r_fld ?_ | with_reducible refine r_prop ?_ | ((with_reducible refine' r_aug ?h1 ?_); (case h1 => exact rfl)) | with_reducible refine r_ipI ?_ | with_reducible refine r_dget ?_ | with_reducible refine r_dput ?_ | with_reducible refine r_bm ?_
  | ((with_reducible refine' r_kDGetS ?h1 ?h2 ?_); (case h1 => assumption); (case h2 => walk_at "val"))
  | ((with_reducible refine' r_kBML ?h1 ?_); (case h1 => assumption))
  | with_reducible refine r_forL ?_ | with_reducible refine r_forR1 ?_ | with_reducible refine r_forR2 ?_ | with_reducible refine r_forT ?_ | with_reducible refine r_lcL ?_ | with_reducible refine r_lcR1 ?_
  | ((with_reducible refine r_kLcG ?hw ?_); (case hw => exact rfl)) | with_reducible refine r_kLcT ?_ | with_reducible refine r_yes ?_
  | with_reducible refine r_pnil ?_ | with_reducible refine r_pcons ?_
  | with_reducible refine r_fnK ?_ | ((with_reducible refine r_kFnK ?hl ?_); (case hl => exact rfl))
  | with_reducible refine r_isi_ii ?_ | with_reducible refine r_isi_ib ?_ | with_reducible refine r_isi_bi ?_ | with_reducible refine r_isi_bb ?_ | with_reducible refine r_isi_ss ?_ | with_reducible refine r_isi_is ?_ | with_reducible refine r_isi_it ?_
  | ((with_reducible refine' r_isi_tt ?h1 ?_); (case h1 => assumption))
  | with_reducible refine r_sfld ?_ | with_reducible refine r_gnil ?_ | with_reducible refine r_gcons ?_
  | ((with_reducible refine' r_gtup ?h1 ?h2 ?_); (case h1 => exact SqT.of (by assumption)); (case h2 => exact rfl))
  | with_reducible refine r_sl ?_ | with_reducible refine r_noPart ?_ | with_reducible refine r_part ?_ | with_reducible refine r_kPart ?_ | with_reducible refine r_m1 ?_ | with_reducible refine r_kM1 ?_ | with_reducible refine r_forS ?_ | with_reducible refine r_lcS ?_ | with_reducible refine r_lcTu ?_ | with_reducible refine r_lcK ?_ | with_reducible refine r_dcL ?_ | with_reducible refine r_lenD ?_
  | ((with_reducible refine r_kDcG ?hw ?_); (case hw => exact rfl)) | with_reducible refine r_kDcT ?_
  | with_reducible refine r_meth ?_ | with_reducible refine r_dz ?_ | with_reducible refine r_revL ?_ | with_reducible refine r_star ?_ | with_reducible refine r_int1 ?_ | with_reducible refine r_int1b ?_ | with_reducible refine r_min2 ?_ | with_reducible refine r_max2 ?_)
local macro_rules | `(tactic| walk_at "rd") => `(tactic| repeat walk_at "rd1")
local macro_rules | `(tactic| walk_at "side") => `(tactic| first | assumption | exact Or.inr ⟨by decide, by decide⟩ | exact Or.inl ⟨by decide, by decide⟩ | (constructor <;> omega) | omega | decide | (refine Or.inl ⟨?_, ?_⟩ <;> omega) | (refine Or.inr ⟨?_, ?_⟩ <;> omega) | (refine ⟨?_, ?_, ?_⟩ <;> first | decide | omega))
def sp_rate_of (C : Addr) : Sp := fun vs H Q _ => ∃ (p : Addr) (B : Bk) (n : Str) (r : Int) (b : Bool), vs = [.ref p, .str n] ∧ BookAt C H p B ∧ (B.ks.map (·.1)).Nodup ∧ (n, r, b) ∈ B.ks ∧ Q (.int r) H
def sp_is_free (C : Addr) : Sp := fun vs H Q _ => ∃ (p : Addr) (B : Bk) (n : Str) (r : Int) (b : Bool), vs = [.ref p, .str n] ∧ BookAt C H p B ∧ (B.ks.map (·.1)).Nodup ∧ (n, r, b) ∈ B.ks ∧ Q (.bl b) H
def sp_g_lengths (C : Addr) : Sp := fun vs H Q _ => ∃ (p : Addr) (B : Bk), vs = [.ref p] ∧ BookAt C H p B ∧ ∀ tl, H tl = some (.tup (B.ls.map V.int)) → Q (.ref tl) H
def sp_g_due (C : Addr) : Sp := fun vs H Q _ => ∃ (p : Addr) (B : Bk), vs = [.ref p] ∧ BookAt C H p B ∧ Q (.int B.due) H
def sp_g_memory (C : Addr) : Sp := fun vs H Q _ => ∃ (p : Addr) (B : Bk), vs = [.ref p] ∧ BookAt C H p B ∧ Q (.int B.mem) H
def sp_g_begins (C : Addr) : Sp := fun vs H Q _ => ∃ (p : Addr) (B : Bk), vs = [.ref p] ∧ BookAt C H p B ∧ Q (.str B.beg) H
def sp_g_laid (C : Addr) : Sp := fun vs H Q _ => ∃ (p : Addr) (B : Bk), vs = [.ref p] ∧ BookAt C H p B ∧ ∀ lv, LaidV H B.laid lv → Q lv H
def sp_g_kinds (C : Addr) : Sp := fun vs H Q _ => ∃ (p : Addr) (B : Bk), vs = [.ref p] ∧ BookAt C H p B ∧ ∀ q H' kvs, H q = none → Same H H' → H' q = some (.dK kvs) → KAt H' kvs B.ks → Q (.ref q) H'
section
variable {P : Program} {w : World} {K : PySem.W.Frag} {mg : Str → Option Value} {base : Heap}
theorem ok_Book_rate_of {f C : Addr} {fd : FuncData} (T : Tx K mg) (bc : BkC K C) (F : FunD K "rate_of" "Book.rate_of" (defArgs s_Book_rate_of) (defBody s_Book_rate_of) (defScope s_Book_rate_of) [] [] f fd) :
    FnOk P w K mg base CX0 1 f fd ["self", "kind"] (sp_rate_of C) := by
  have sc : FnScope ["self", "kind"] ["self", "kind"] (defScope s_Book_rate_of) := ⟨rfl, rfl, rfl, by decide +kernel, rfl, by decide +kernel, by decide +kernel⟩
  refine F.ok sc (by rintro vs H Q E ⟨_, _, _, _, _, rfl, _⟩; rfl) (fun cdv A outer s H vs Q E hr h => ⟨_, PSs.nox ((pss_one (ps_ret (pe_ix (ix_tupK (K := K) rfl) (pe_dget (hu_of hr) (pe_fldK (K := K) rfl (pv 0)) (pv 1) (fun _ _ => rfl)) pe_int (fun _ _ => rfl))))), ?_⟩)
  obtain ⟨p, B, n, r, b, rfl, ⟨dx, tl, kd, lv, kvs, hB⟩, nd, hm, q⟩ := h
  obtain ⟨t, hv, ht⟩ := hB.a.val nd hm
  walk_at "rd"
  refine r_kFld hB.i bc.cl bc.n3 rfl ?_
  walk_at "rd"
  refine r_kDGetS hB.k hv ?_
  walk_at "rd"
  exact r_ixT (SqT.of ht) (at_get (n := 0) rfl rfl) q
theorem ok_Book_is_free {f C : Addr} {fd : FuncData} (T : Tx K mg) (bc : BkC K C) (F : FunD K "is_free" "Book.is_free" (defArgs s_Book_is_free) (defBody s_Book_is_free) (defScope s_Book_is_free) [] [] f fd) :
    FnOk P w K mg base CX0 1 f fd ["self", "kind"] (sp_is_free C) := by
  have sc : FnScope ["self", "kind"] ["self", "kind"] (defScope s_Book_is_free) := ⟨rfl, rfl, rfl, by decide +kernel, rfl, by decide +kernel, by decide +kernel⟩
  refine F.ok sc (by rintro vs H Q E ⟨_, _, _, _, _, rfl, _⟩; rfl) (fun cdv A outer s H vs Q E hr h => ⟨_, PSs.nox ((pss_one (ps_ret (pe_ix (ix_tupK (K := K) rfl) (pe_dget (hu_of hr) (pe_fldK (K := K) rfl (pv 0)) (pv 1) (fun _ _ => rfl)) pe_int (fun _ _ => rfl))))), ?_⟩)
  obtain ⟨p, B, n, r, b, rfl, ⟨dx, tl, kd, lv, kvs, hB⟩, nd, hm, q⟩ := h
  obtain ⟨t, hv, ht⟩ := hB.a.val nd hm
  walk_at "rd"
  refine r_kFld hB.i bc.cl bc.n3 rfl ?_
  walk_at "rd"
  refine r_kDGetS hB.k hv ?_
  walk_at "rd"
  exact r_ixT (SqT.of ht) (at_get (n := 1) rfl rfl) q
theorem ok_Book_lengths {f C : Addr} {fd : FuncData} (T : Tx K mg) (bc : BkC K C) (F : FunD K "lengths" "Book.lengths" (defArgs s_Book_lengths) (defBody s_Book_lengths) (defScope s_Book_lengths) [] [] f fd) : FnOk P w K mg base CX0 1 f fd ["self"] (sp_g_lengths C) := by
  have sc : FnScope ["self"] ["self"] (defScope s_Book_lengths) := ⟨rfl, rfl, rfl, by decide +kernel, rfl, by decide +kernel, by decide +kernel⟩
  refine F.ok sc (by rintro vs H Q E ⟨_, _, rfl, _⟩; rfl) (fun cdv A outer s H vs Q E hr h => ⟨_, PSs.nox ((pss_one (ps_ret (pe_fldK (K := K) rfl (pv 0))))), ?_⟩)
  obtain ⟨p, B, rfl, ⟨dx, tl, kd, lv, kvs, hB⟩, k⟩ := h
  walk_at "rd"
  exact r_kFld hB.i bc.cl bc.n1 rfl (k tl hB.l)
theorem ok_Book_due {f C : Addr} {fd : FuncData} (T : Tx K mg) (bc : BkC K C) (F : FunD K "due" "Book.due" (defArgs s_Book_due) (defBody s_Book_due) (defScope s_Book_due) [] [] f fd) : FnOk P w K mg base CX0 1 f fd ["self"] (sp_g_due C) := by
  have sc : FnScope ["self"] ["self"] (defScope s_Book_due) := ⟨rfl, rfl, rfl, by decide +kernel, rfl, by decide +kernel, by decide +kernel⟩
  refine F.ok sc (by rintro vs H Q E ⟨_, _, rfl, _⟩; rfl) (fun cdv A outer s H vs Q E hr h => ⟨_, PSs.nox ((pss_one (ps_ret (pe_fldK (K := K) rfl (pv 0))))), ?_⟩)
  obtain ⟨p, B, rfl, ⟨dx, tl, kd, lv, kvs, hB⟩, k⟩ := h
  walk_at "rd"
  exact r_kFld hB.i bc.cl bc.n2 rfl k
theorem ok_Book_memory {f C : Addr} {fd : FuncData} (T : Tx K mg) (bc : BkC K C) (F : FunD K "memory" "Book.memory" (defArgs s_Book_memory) (defBody s_Book_memory) (defScope s_Book_memory) [] [] f fd) : FnOk P w K mg base CX0 1 f fd ["self"] (sp_g_memory C) := by
  have sc : FnScope ["self"] ["self"] (defScope s_Book_memory) := ⟨rfl, rfl, rfl, by decide +kernel, rfl, by decide +kernel, by decide +kernel⟩
  refine F.ok sc (by rintro vs H Q E ⟨_, _, rfl, _⟩; rfl) (fun cdv A outer s H vs Q E hr h => ⟨_, PSs.nox ((pss_one (ps_ret (pe_fldK (K := K) rfl (pv 0))))), ?_⟩)
  obtain ⟨p, B, rfl, ⟨dx, tl, kd, lv, kvs, hB⟩, k⟩ := h
  walk_at "rd"
  exact r_kFld hB.i bc.cl bc.n4 rfl k
theorem ok_Book_begins {f C : Addr} {fd : FuncData} (T : Tx K mg) (bc : BkC K C) (F : FunD K "begins" "Book.begins" (defArgs s_Book_begins) (defBody s_Book_begins) (defScope s_Book_begins) [] [] f fd) : FnOk P w K mg base CX0 1 f fd ["self"] (sp_g_begins C) := by
  have sc : FnScope ["self"] ["self"] (defScope s_Book_begins) := ⟨rfl, rfl, rfl, by decide +kernel, rfl, by decide +kernel, by decide +kernel⟩
  refine F.ok sc (by rintro vs H Q E ⟨_, _, rfl, _⟩; rfl) (fun cdv A outer s H vs Q E hr h => ⟨_, PSs.nox ((pss_one (ps_ret (pe_fldK (K := K) rfl (pv 0))))), ?_⟩)
  obtain ⟨p, B, rfl, ⟨dx, tl, kd, lv, kvs, hB⟩, k⟩ := h
  walk_at "rd"
  exact r_kFld hB.i bc.cl bc.n5 rfl k
theorem ok_Book_laid {f C : Addr} {fd : FuncData} (T : Tx K mg) (bc : BkC K C) (F : FunD K "laid" "Book.laid" (defArgs s_Book_laid) (defBody s_Book_laid) (defScope s_Book_laid) [] [] f fd) : FnOk P w K mg base CX0 1 f fd ["self"] (sp_g_laid C) := by
  have sc : FnScope ["self"] ["self"] (defScope s_Book_laid) := ⟨rfl, rfl, rfl, by decide +kernel, rfl, by decide +kernel, by decide +kernel⟩
  refine F.ok sc (by rintro vs H Q E ⟨_, _, rfl, _⟩; rfl) (fun cdv A outer s H vs Q E hr h => ⟨_, PSs.nox ((pss_one (ps_ret (pe_fldK (K := K) rfl (pv 0))))), ?_⟩)
  obtain ⟨p, B, rfl, ⟨dx, tl, kd, lv, kvs, hB⟩, k⟩ := h
  walk_at "rd"
  exact r_kFld hB.i bc.cl bc.n6 rfl (k lv hB.d)
theorem ok_Book_kinds {f C : Addr} {fd : FuncData} (T : Tx K mg) (bc : BkC K C) (F : FunD K "kinds" "Book.kinds" (defArgs s_Book_kinds) (defBody s_Book_kinds) (defScope s_Book_kinds) [] [] f fd) : FnOk P w K mg base CX0 1 f fd ["self"] (sp_g_kinds C) := by
  have sc : FnScope ["self"] ["self"] (defScope s_Book_kinds) := ⟨rfl, rfl, rfl, by decide +kernel, rfl, by decide +kernel, by decide +kernel⟩
  refine F.ok sc (by rintro vs H Q E ⟨_, _, rfl, _⟩; rfl) (fun cdv A outer s H vs Q E hr h => ⟨_, PSs.nox ((pss_one (ps_ret (pe_callTy c_dictD (by rfl) T.b_dict (by decide +kernel) (pa_cons (pe_fldK (K := K) rfl (pv 0)) pa_nil))))), ?_⟩)
  obtain ⟨p, B, rfl, ⟨dx, tl, kd, lv, kvs, hB⟩, k⟩ := h
  walk_at "rd"
  refine r_kFld hB.i bc.cl bc.n3 rfl ?_
  walk_at "rd"
  exact r_dictD hB.k fun q H1 nq e1 hq => k q H1 kvs nq e1 hq (hB.a.keepT e1)
end
end Wp
set_option Elab.async false
set_option linter.all false
set_option maxRecDepth 100000
set_option maxHeartbeats 4000000
/-! A new dict that is walked and then left; three at once; max of three. -/
namespace Wp
open PySem PySem.Spec PyProof.Rows L2
def kFrz (Q : VK) : VK := fun x H1 => ∃ d kvs, x = .ref d ∧ H1 d = some (.dK kvs) ∧ ∀ od, Q (.ref d) (upd H1 d (.frz od (.dK kvs)))
def tFrz (t : TE) : TE := fun σ H Q => t σ H (kFrz Q)
section
variable {X : Cx} {e : Expr} {t : TE} {σ : L2.St} {H : Hp} {Q : VK} {d : Addr} {kvs : List (Key × V)}
theorem pe_frz (h : PE X e t) : PE X e (tFrz t) := by
  refine ⟨fun pins s σ H Q I hw => thn (h.run pins s σ H _ I hw) fun v s1 ⟨x, H1, I1, r, d, kvs, ex, hd, q⟩ => ?_⟩
  obtain ⟨od, I2⟩ := I1.lock hd True.intro
  exact ⟨.ref d, _, I2, by rw [← ex]; exact r, q od⟩
theorem r_frz (q : t σ H (kFrz Q)) : tFrz t σ H Q := q
theorem r_kFrz (h : H d = some (.dK kvs)) (q : ∀ od H', H' d = some (.frz od (.dK kvs)) → But d H H' → (∀ b, H' b = none → H b = none) → Q (.ref d) H') : kFrz Q (.ref d) H :=
  ⟨d, kvs, rfl, h, fun od => q od _ upd_same But.upd fun b e => by
    by_cases hb : b = d
    · rw [hb, upd_same] at e
      cases e
    · rw [upd_ne hb] at e
      exact e⟩
end
section
variable {ta : TA} {D : Ends} {σ : L2.St} {H : Hp} {i j l : Nat} {x y z : V} {Q : VK}
def kPar3 (i j l : Nat) (D : Ends) (σ : L2.St) : List V → Hp → Prop := fun vs H1 => ∃ u v w, vs = [u, v, w] ∧ D.nx (((σ.set i (some u)).set j (some v)).set l (some w)) H1
theorem r_par3 (q : ta σ H (kPar3 i j l D σ)) : tPar3 i j l ta D σ H := q
theorem r_kPar3 (q : D.nx (((σ.set i (some x)).set j (some y)).set l (some z)) H) : kPar3 i j l D σ [x, y, z] H := ⟨x, y, z, rfl, q⟩
theorem r_max3 {a b c : Int} (q : ∀ m : Int, Q (.int m) H) : rNuC3 nuMax3 [.int a, .int b, .int c] H Q := by
  have h2 : ∀ a b : Int, ∃ m : Int, nuMax2 (.int a) (.int b) = some (.int m) := fun a b => by
    have e : nuMax2 (.int a) (.int b) = some (if decide (a < b) = true then V.int b else V.int a) := rfl
    rw [e]
    by_cases h : a < b
    · exact ⟨b, by rw [if_pos (decide_eq_true h)]⟩
    · exact ⟨a, by rw [if_neg (by rw [decide_eq_false h]; decide)]⟩
  obtain ⟨m, hm⟩ := h2 a b
  obtain ⟨n, hn⟩ := h2 m c
  exact ⟨_, _, _, _, rfl, by show (nuMax2 (.int a) (.int b)).bind _ = _; rw [hm]; exact hn, q n⟩
end
/-! data that can stand in lists that are compared -/
structure GoodD (K : PySem.W.Frag) (H : Hp) (v : V) (d : PyData) : Prop where
  p : Dp K H v d
  l : PyData.canLay0 d = true
  h : d.depth ≤ 20
theorem GoodD.keep {K : PySem.W.Frag} {H H' : Hp} {v : V} {d : PyData} (g : GoodD K H v d) (e : Same H H') : GoodD K H' v d := ⟨Dp.mono e g.p, g.l, g.h⟩
/-- a list of such data -/
inductive GoodL (K : PySem.W.Frag) (H : Hp) : List V → List PyData → Prop
  | nil : GoodL K H [] []
  | cons {v : V} {d : PyData} {vs : List V} {ds : List PyData} : GoodD K H v d → GoodL K H vs ds → GoodL K H (v :: vs) (d :: ds)
section
variable {K : PySem.W.Frag} {H H' : Hp} {vs : List V} {ds : List PyData} {p q : Addr} {Q : VK} {v : V} {d : PyData}
theorem GoodL.dp (g : GoodL K H vs ds) : DpAll K H vs ds ∧ PyData.canLayAll0 ds = true ∧ PyData.depthAll ds ≤ 20 ∧ vs.length = ds.length := by
  induction g with
  | nil => exact ⟨.nil, rfl, Nat.zero_le _, rfl⟩
  | @cons v d vs ds h _ ih =>
    obtain ⟨h1, h2, h3, h4⟩ := ih
    refine ⟨.cons h.p h1, ?_, ?_, by simp [h4]⟩
    · rw [PyData.canLayAll0, h.l, h2]
      rfl
    · rw [PyData.depthAll]
      have := h.h
      omega
theorem GoodL.keep (g : GoodL K H vs ds) (e : Same H H') : GoodL K H' vs ds := by
  induction g with
  | nil => exact .nil
  | cons h _ ih => exact .cons (h.keep e) ih
theorem GoodL.snoc (g : GoodL K H vs ds) (h : GoodD K H v d) : GoodL K H (vs ++ [v]) (ds ++ [d]) := by
  induction g with
  | nil => exact .cons h .nil
  | cons h' _ ih => exact .cons h' ih
theorem GoodD.int (i : Int) : GoodD K H (.int i) (.int i) := ⟨.int i, rfl, by simp [PyData.depth]⟩
theorem GoodD.str {z : Str} (h : PyData.strOk z = true) : GoodD K H (.str z) (.str z) := ⟨.str z, h, by simp [PyData.depth]⟩
/-- a tuple, a list of good data, not too deep -/
theorem GoodL.tup (g : GoodL K H vs ds) (h : PyData.depthAll ds ≤ 18) (hp : H p = some (.tup vs)) : GoodD K H (.ref p) (.tuple ds) := by
  obtain ⟨h1, h2, _, _⟩ := g.dp
  exact ⟨.tup (SqT.of hp) h1, h2, by rw [PyData.depth]; omega⟩
theorem GoodL.lst (g : GoodL K H vs ds) (h : PyData.depthAll ds ≤ 18) (hp : H p = some (.lst vs)) : GoodD K H (.ref p) (.list ds) := by
  obtain ⟨h1, h2, _, _⟩ := g.dp
  exact ⟨.lst (SqL.of hp) h1, h2, by rw [PyData.depth]; omega⟩
/-- xs != [] -/
theorem r_neNil (g : GoodL K H vs ds) (hp : H p = some (.lst vs)) (hq : H q = some (.lst [])) (k : Q (.bl (!decide (vs = []))) H) : rNeD K (.ref p) (.ref q) H Q := by
  obtain ⟨h1, h2, h3, h4⟩ := g.dp
  refine ⟨.list ds, .list [], .lst (SqL.of hp) h1, .lst (SqL.of hq) .nil, ?_, by decide +kernel, ?_⟩
  · show (PyData.canLayAll0 ds && decide (PyData.depthAll ds + 1 ≤ 64)) = true
    rw [h2, decide_eq_true (by omega)]
    rfl
  · have e : PyData.eqv (.list ds) (.list []) = decide (vs = []) := by
      show PyData.eqvAll ds [] = _
      cases ds with
      | nil =>
        have : vs = [] := List.length_eq_zero_iff.mp h4
        rw [this]
        rfl
      | cons a r =>
        cases vs with
        | nil => cases h4
        | cons b s =>
          show PyData.eqvAll (a :: r) [] = _
          simp [PyData.eqvAll]
    rw [e]
    exact k
end
/-! a list, whatever is in it, against [] -/
def rNeNil (K : PySem.W.Frag) : R2 := fun x y H Q => ∃ (p q : Addr) (xs : List V), x = .ref p ∧ y = .ref q ∧ SqL K H p xs ∧ SqL K H q [] ∧ Q (.bl (!decide (xs = []))) H
def rEqNil (K : PySem.W.Frag) : R2 := fun x y H Q => ∃ (p q : Addr) (xs : List V), x = .ref p ∧ y = .ref q ∧ SqL K H p xs ∧ SqL K H q [] ∧ Q (.bl (decide (xs = []))) H
section
variable {X : Cx} {K : PySem.W.Frag} {H : Hp} {Q : VK} {p q : Addr} {xs : List V}
theorem nil_cmp (hu : X.A.units < cLine) {pins : List (Addr × Obj)} {s : Shared} {σ : L2.St} (I : Inv X pins σ H s) (h1 : SqL X.K H p xs) (h2 : SqL X.K H q []) :
    (∀ (R : Value → Shared → Prop) (E : Value → Shared → Prop), R (.bool (decide (xs = []))) s → wpAny (model X.prog X.w) X.A (compareOp .Eq (.ref p) (.ref q)) R E s) ∧
    (∀ (R : Value → Shared → Prop) (E : Value → Shared → Prop), R (.bool (!decide (xs = []))) s → wpAny (model X.prog X.w) X.A (compareOp .NotEq (.ref p) (.ref q)) R E s) := by
  obtain ⟨us, rv, p1, _⟩ := I.list h1
  obtain ⟨ws, rw2, p2, _⟩ := I.list h2
  have e2 : ws = [] := by
    cases rw2
    rfl
  subst e2
  cases xs with
  | nil =>
    have e1 : us = [] := by
      cases rv
      rfl
    subst e1
    refine ⟨fun R E hR => ?_, fun R E hR => ?_⟩
    · exact SeqAt.eq_listAt (e := fun _ => true) p1.isList p2.isList rfl hu (fun j h => absurd h (by simp)) (by simpa using hR)
    · exact SeqAt.RcNeAt.lists (e := fun _ => true) p1.isList p2.isList rfl hu (fun j h => absurd h (by simp)) X.prog X.w E R (by simpa using hR)
  | cons v vs =>
    have hz : (us.toArray.size != ([] : List Value).toArray.size) = true := by
      have := rv.length
      cases us with
      | nil => cases this
      | cons a r => simp
    refine ⟨fun R E hR => ?_, fun R E hR => ?_⟩
    · exact SeqAt.eq_list_lengthsAt p1.isList p2.isList hz hu (by simpa using hR)
    · exact SeqAt.RcNeAt.lists_lengths p1.isList p2.isList hz hu X.prog X.w E R (by simpa using hR)
theorem neNilK (h : X.K = K) (hu : X.A.units + 64 < cLine) : OpR X (compareOp .NotEq) (rNeNil K) := by
  subst h
  intro pins s σ H x y v u Q I rx ry h
  obtain ⟨p, q, xs, rfl, rfl, h1, h2, k⟩ := h
  obtain rfl : v = .ref p := rx
  obtain rfl : u = .ref q := ry
  exact (nil_cmp (by omega) I h1 h2).2 _ _ ⟨.bl _, H, I, rfl, k⟩
theorem eqNilK (h : X.K = K) (hu : X.A.units + 64 < cLine) : OpR X (compareOp .Eq) (rEqNil K) := by
  subst h
  intro pins s σ H x y v u Q I rx ry h
  obtain ⟨p, q, xs, rfl, rfl, h1, h2, k⟩ := h
  obtain rfl : v = .ref p := rx
  obtain rfl : u = .ref q := ry
  exact (nil_cmp (by omega) I h1 h2).1 _ _ ⟨.bl _, H, I, rfl, k⟩
theorem r_neNilA (h1 : SqL K H p xs) (h2 : SqL K H q []) (k : Q (.bl (!decide (xs = []))) H) : rNeNil K (.ref p) (.ref q) H Q := ⟨p, q, xs, rfl, rfl, h1, h2, k⟩
theorem r_eqNilA (h1 : SqL K H p xs) (h2 : SqL K H q []) (k : Q (.bl (decide (xs = []))) H) : rEqNil K (.ref p) (.ref q) H Q := ⟨p, q, xs, rfl, rfl, h1, h2, k⟩
end
end Wp
set_option Elab.async false
set_option linter.all false
set_option maxRecDepth 100000
set_option maxHeartbeats 4000000
/-! Books held against each other: why one is dearer; days of the first months. -/
namespace Wp
open PySem PySem.Spec PyProof.Rows L2
def whyF (B1 B2 : Bk) (r1 : Int) (f1 : Bool) (r2 : Int) (f2 : Bool) : Str :=
  if r1 = 0 then "" else if r1 > r2 then "rate" else if f2 = false then "" else
  if B2.beg = "statement" ∧ (f1 = false ∨ B1.beg = "day") then "begin" else if f1 = false then "free" else
  if B1.due < B2.due then "due" else if B1.mem > B2.mem ∧ (B1.beg = "day" ∨ B2.due > 0) then "memory" else ""
section
variable {B1 B2 : Bk} {r1 r2 : Int} {f1 f2 : Bool}
theorem sn1 : ¬ ("" : Str) = "rate" := by decide +kernel
theorem sn2 : ¬ ("" : Str) = "begin" := by decide +kernel
theorem sn3 : ¬ ("" : Str) = "free" := by decide +kernel
theorem sn4 : ¬ ("" : Str) = "due" := by decide +kernel
theorem sn5 : ¬ ("" : Str) = "memory" := by decide +kernel
theorem why_rate (h : whyF B1 B2 r1 f1 r2 f2 = "rate") : r1 > r2 := by
  unfold whyF at h
  by_cases h1 : r1 = 0
  · rw [if_pos h1] at h
    exact absurd h sn1
  · rw [if_neg h1] at h
    by_cases h2 : r1 > r2
    · exact h2
    · rw [if_neg h2] at h
      repeat (split at h; first | exact absurd h (by decide +kernel) | skip)
      all_goals exact absurd h (by decide +kernel)
theorem why_ne (h : ¬ whyF B1 B2 r1 f1 r2 f2 = "") : r1 ≠ 0 := by
  intro z
  unfold whyF at h
  rw [if_pos z] at h
  exact h rfl
theorem why_memory (h : whyF B1 B2 r1 f1 r2 f2 = "memory") : B1.beg = "day" ∨ B2.due > 0 := by
  unfold whyF at h
  by_cases h7 : B1.mem > B2.mem ∧ (B1.beg = "day" ∨ B2.due > 0)
  · exact h7.2
  · rw [if_neg h7] at h
    repeat (split at h; first | exact absurd h (by decide +kernel) | skip)
    all_goals exact absurd h (by decide +kernel)
theorem why_cases : whyF B1 B2 r1 f1 r2 f2 = "" ∨ whyF B1 B2 r1 f1 r2 f2 = "rate" ∨ whyF B1 B2 r1 f1 r2 f2 = "begin" ∨ whyF B1 B2 r1 f1 r2 f2 = "free" ∨ whyF B1 B2 r1 f1 r2 f2 = "due" ∨ whyF B1 B2 r1 f1 r2 f2 = "memory" := by
  unfold whyF
  repeat (split; first | exact .inl rfl | exact .inr (.inl rfl) | exact .inr (.inr (.inl rfl)) | exact .inr (.inr (.inr (.inl rfl))) | exact .inr (.inr (.inr (.inr (.inl rfl)))) | exact .inr (.inr (.inr (.inr (.inr rfl)))))
  exact .inl rfl
end
namespace Bk
/-- how long the months are -/
theorem first_gap {B : Bk} (ok : B.Ok) {m : Int} (h0 : 0 ≤ m) (h3 : m ≤ 3) : 2 ≤ B.first (m + 1) - B.first m ∧ B.first (m + 1) - B.first m ≤ 31 := by
  have l1 := ok.l1
  have l2 := ok.l2
  have l3 := ok.l3
  unfold first
  generalize B.ls = l at *
  have hm : m = 0 ∨ m = 1 ∨ m = 2 ∨ m = 3 := by omega
  match l, l1, l2, l3 with
  | [a], _, _, l3 =>
    have ha := l3 a (by simp)
    rcases hm with rfl | rfl | rfl | rfl <;> simp <;> omega
  | [a, b], _, _, l3 =>
    have ha := l3 a (by simp)
    have hb := l3 b (by simp)
    rcases hm with rfl | rfl | rfl | rfl <;> simp <;> omega
  | [a, b, c], _, _, l3 =>
    have ha := l3 a (by simp)
    have hb := l3 b (by simp)
    have hc := l3 c (by simp)
    rcases hm with rfl | rfl | rfl | rfl <;> simp <;> omega
  | [a, b, c, d], _, _, l3 =>
    have ha := l3 a (by simp)
    have hb := l3 b (by simp)
    have hc := l3 c (by simp)
    have hd := l3 d (by simp)
    rcases hm with rfl | rfl | rfl | rfl <;> simp <;> omega
theorem first0 {B : Bk} (ok : B.Ok) : B.first 0 = 0 := by
  unfold first
  simp
theorem first1 {B : Bk} (ok : B.Ok) : 2 ≤ B.first 1 ∧ B.first 1 ≤ 31 := by
  have h := first_gap ok (Int.le_refl 0) (by decide)
  rw [first0 ok] at h
  have e : (0 : Int) + 1 = 1 := rfl
  rw [e] at h
  omega
theorem due_le {B : Bk} (ok : B.Ok) : B.due ≤ 30 := by
  have l1 := ok.l1
  obtain ⟨a, ha⟩ : ∃ a, a ∈ B.ls := List.exists_mem_of_length_pos (by omega)
  have h1 := ok.d1 a ha
  have h2 := ok.l3 a ha
  omega
end Bk
theorem name_strOk {z : Str} (h : NameOk z) : PyData.strOk z = true := by
  have hl := h.low
  unfold PyData.strOk
  rw [Array.all_eq_true']
  intro c hc
  have := hl c (Array.mem_toList_iff.mpr hc)
  exact decide_eq_true (by omega)
theorem strOk_buy : PyData.strOk "buy" = true := by decide +kernel
theorem strOk_pay : PyData.strOk "pay" = true := by decide +kernel
section
variable {K : PySem.W.Frag} {H : Hp} {t : Addr} {n : Str} {a b : Int}
theorem good_buy (h : PyData.strOk n = true) (ht : H t = some (.tup [.str "buy", .int a, .str n, .int b])) : GoodD K H (.ref t) (.tuple [.str "buy", .int a, .str n, .int b]) :=
  GoodL.tup (.cons (.str strOk_buy) (.cons (.int _) (.cons (.str h) (.cons (.int _) .nil)))) (by simp [PyData.depthAll, PyData.depth]) ht
theorem good_pay (ht : H t = some (.tup [.str "pay", .int a, .int b])) : GoodD K H (.ref t) (.tuple [.str "pay", .int a, .int b]) :=
  GoodL.tup (.cons (.str strOk_pay) (.cons (.int _) (.cons (.int _) .nil))) (by simp [PyData.depthAll, PyData.depth]) ht
end
/-- what course_for hands back -/
def CrsV (K : PySem.W.Frag) (H : Hp) (s : Str) (v : V) : Prop := (s = "" ∧ v = .non) ∨ (¬ s = "" ∧ ∃ t d, v = .ref t ∧ GoodD K H (.ref t) d)
theorem CrsV.keep {K : PySem.W.Frag} {H H' : Hp} {s : Str} {v : V} (h : CrsV K H s v) (e : Same H H') : CrsV K H' s v := by
  rcases h with h | ⟨h1, t, d, h2, h3⟩
  · exact .inl h
  · exact .inr ⟨h1, t, d, h2, h3.keep e⟩
end Wp
set_option Elab.async false
set_option linter.all false
set_option maxRecDepth 100000
set_option maxHeartbeats 4000000
namespace Wp
open PySem PySem.Spec PyProof.Rows L2
abbrev s_are_of_one_sort : Stmt := topS 34
abbrev s_need_pair : Stmt := topS 35
abbrev s_is_from_own_day : Stmt := topS 36
abbrev s_why_dearer : Stmt := topS 37
abbrev s_by_rate : Stmt := topS 38
abbrev s_by_begin : Stmt := topS 39
abbrev s_by_memory : Stmt := topS 40
abbrev s_course_for : Stmt := topS 41
abbrev s_dearer_course : Stmt := topS 42
abbrev s_never_dearer : Stmt := topS 43
abbrev s_parting_course : Stmt := topS 44
abbrev s_alike : Stmt := topS 45
local macro_rules | `(tactic| walk_at "val") => `(tactic| assumption)
local macro_rules | `(tactic| walk_at "rd1") => `(tactic| first
  | with_reducible refine r_seq ?_ | with_reducible refine r_next ?_ | with_reducible refine r_if ?_ | with_reducible refine r_asg ?_ | with_reducible refine r_gname ?_
  | with_reducible refine r_ret ?_ | with_reducible refine r_retN ?_ | with_reducible refine r_drop ?_ | with_reducible refine r_par ?_ | with_reducible refine r_kPar ?_
  | ((with_reducible refine' r_var ?hv ?_); (case hv => exact rfl)) | with_reducible refine r_c ?_ | with_reducible refine r_nil ?_ | with_reducible refine r_cons ?_
  | with_reducible refine r_fn ?_ | with_reducible refine r_cb ?_ | with_reducible refine r_op ?_ | with_reducible refine r_un ?_ | with_reducible refine r_I0 ?_
  | with_reducible refine r_pow5 ?_ | with_reducible refine r_pow6 ?_ | with_reducible refine r_pow7 ?_ | with_reducible refine r_pow9 ?_ | with_reducible refine r_pow18 ?_ | with_reducible refine r_pow20 ?_ | with_reducible refine r_pow30 ?_
  | with_reducible refine r_isN_non ?_ | with_reducible refine r_isN_ref ?_ | with_reducible refine r_isN_int ?_ | with_reducible refine r_isN_str ?_ | with_reducible refine r_isN_bl ?_ | with_reducible refine r_notN_non ?_ | with_reducible refine r_notN_ref ?_ | with_reducible refine r_notN_int ?_ | with_reducible refine r_notN_str ?_ | with_reducible refine r_notN_bl ?_
  | ((with_reducible refine r_I ?hc ?_); (case hc => walk_at "side")) | with_reducible refine r_U ?_
  | with_reducible refine r_eqI ?_ | with_reducible refine r_neI ?_ | with_reducible refine r_eqS ?_ | with_reducible refine r_neS ?_ | with_reducible refine r_eqB ?_ | with_reducible refine r_neB ?_
  | with_reducible refine r_chain ?_ | with_reducible refine r_test ?_ | with_reducible refine r_tB ?_ | with_reducible refine r_kTest ?_ | with_reducible refine r_not ?_
  | with_reducible refine r_and ?_ | with_reducible refine r_or ?_ | with_reducible refine r_tif ?_ | with_reducible refine r_andV ?_ | with_reducible refine r_orV ?_ | with_reducible refine r_notV ?_
  | with_reducible refine r_kAndV ?_ | with_reducible refine r_kOrV ?_ | with_reducible refine r_kNotV ?_
  | with_reducible refine w_T ?_ | with_reducible refine w_F ?_ | with_reducible refine w_NT ?_ | with_reducible refine w_NF ?_
  | with_reducible refine r_tup ?_ | with_reducible refine r_lst ?_ | with_reducible refine r_fld ?_ | with_reducible refine r_prop ?_ | ((with_reducible refine' r_aug ?h1 ?_); (case h1 => exact rfl)) | with_reducible refine r_ipI ?_ | with_reducible refine r_dget ?_ | with_reducible refine r_dput ?_ | with_reducible refine r_bm ?_
  | ((with_reducible refine' r_kDGetS ?h1 ?h2 ?_); (case h1 => assumption); (case h2 => walk_at "val"))
  | ((with_reducible refine' r_kBML ?h1 ?_); (case h1 => assumption))
  | with_reducible refine r_forL ?_ | with_reducible refine r_forR1 ?_ | with_reducible refine r_forR2 ?_ | with_reducible refine r_forT ?_ | with_reducible refine r_lcL ?_ | with_reducible refine r_lcR1 ?_
  | ((with_reducible refine r_kLcG ?hw ?_); (case hw => exact rfl)) | with_reducible refine r_kLcT ?_ | with_reducible refine r_yes ?_
  | with_reducible refine r_pnil ?_ | with_reducible refine r_pcons ?_
  | with_reducible refine r_fnK ?_ | ((with_reducible refine r_kFnK ?hl ?_); (case hl => exact rfl))
  | with_reducible refine r_isi_ii ?_ | with_reducible refine r_isi_ib ?_ | with_reducible refine r_isi_bi ?_ | with_reducible refine r_isi_bb ?_ | with_reducible refine r_isi_ss ?_ | with_reducible refine r_isi_is ?_ | with_reducible refine r_isi_it ?_
  | ((with_reducible refine' r_isi_tt ?h1 ?_); (case h1 => assumption))
  | with_reducible refine r_sfld ?_ | with_reducible refine r_gnil ?_ | with_reducible refine r_gcons ?_
  | ((with_reducible refine' r_gtup ?h1 ?h2 ?_); (case h1 => exact SqT.of (by assumption)); (case h2 => exact rfl))
  | with_reducible refine r_sl ?_ | with_reducible refine r_noPart ?_ | with_reducible refine r_part ?_ | with_reducible refine r_kPart ?_ | with_reducible refine r_m1 ?_ | with_reducible refine r_kM1 ?_ | with_reducible refine r_forS ?_ | with_reducible refine r_lcS ?_ | with_reducible refine r_lcTu ?_ | with_reducible refine r_lcK ?_ | with_reducible refine r_dcL ?_ | with_reducible refine r_lenD ?_
  | ((with_reducible refine r_kDcG ?hw ?_); (case hw => exact rfl)) | with_reducible refine r_kDcT ?_
  | with_reducible refine r_meth ?_ | with_reducible refine r_frz ?_ | with_reducible refine r_par3 ?_ | with_reducible refine r_kPar3 ?_ | with_reducible refine r_dz ?_ | with_reducible refine r_revL ?_ | with_reducible refine r_star ?_ | with_reducible refine r_int1 ?_ | with_reducible refine r_int1b ?_ | with_reducible refine r_min2 ?_ | with_reducible refine r_max2 ?_)
local macro_rules | `(tactic| walk_at "rd") => `(tactic| repeat walk_at "rd1")
local macro_rules | `(tactic| walk_at "side") => `(tactic| first | assumption | exact Or.inr ⟨by decide, by decide⟩ | exact Or.inl ⟨by decide, by decide⟩ | (constructor <;> omega) | omega | decide | (refine Or.inl ⟨?_, ?_⟩ <;> omega) | (refine Or.inr ⟨?_, ?_⟩ <;> omega) | (refine ⟨?_, ?_, ?_⟩ <;> first | decide | omega))
/-- two books of one sort, at p and q -/
structure Pair (C : Addr) (H : Hp) (p q : Addr) (B1 B2 : Bk) : Prop where
  a : BookAt C H p B1
  b : BookAt C H q B2
  o1 : B1.Ok
  o2 : B2.Ok
  n1 : B1.laid = none
  n2 : B2.laid = none
  ls : B1.ls = B2.ls
  nm : B1.ks.map (·.1) = B2.ks.map (·.1)
theorem Pair.keep {C p q : Addr} {H H' : Hp} {B1 B2 : Bk} (h : Pair C H p q B1 B2) (e : Same H H') : Pair C H' p q B1 B2 := ⟨h.a.keep e, h.b.keep e, h.o1, h.o2, h.n1, h.n2, h.ls, h.nm⟩
theorem Pair.swap {C p q : Addr} {H : Hp} {B1 B2 : Bk} (h : Pair C H p q B1 B2) : Pair C H q p B2 B1 := ⟨h.b, h.a, h.o2, h.o1, h.n2, h.n1, h.ls.symm, h.nm.symm⟩
/-- of a kind of both -/
structure Knd (B1 B2 : Bk) (n : Str) (r1 : Int) (f1 : Bool) (r2 : Int) (f2 : Bool) : Prop where
  a : (n, r1, f1) ∈ B1.ks
  b : (n, r2, f2) ∈ B2.ks
theorem Knd.bd {B1 B2 : Bk} {n : Str} {r1 r2 : Int} {f1 f2 : Bool} (k : Knd B1 B2 n r1 f1 r2 f2) (o1 : B1.Ok) (o2 : B2.Ok) : 0 ≤ r1 ∧ r1 ≤ 1000 ∧ 0 ≤ r2 ∧ r2 ≤ 1000 ∧ PyData.strOk n = true :=
  ⟨(o1.kn.rt _ k.a).1, (o1.kn.rt _ k.a).2, (o2.kn.rt _ k.b).1, (o2.kn.rt _ k.b).2, name_strOk (o1.kn.nm.ok n (List.mem_map.mpr ⟨_, k.a, rfl⟩))⟩
def sp_one_sort (C : Addr) : Sp := fun vs H Q _ => ∃ (p q : Addr) (B1 B2 : Bk), vs = [.ref p, .ref q] ∧ Pair C H p q B1 B2 ∧ ∀ H', Same H H' → Q (.bl true) H'
def sp_need_pair (C : Addr) : Sp := fun vs H Q _ => ∃ (p q : Addr) (B1 B2 : Bk), vs = [.ref p, .ref q] ∧ Pair C H p q B1 B2 ∧ ∀ H', Same H H' → Q .non H'
def sp_own_day (C : Addr) : Sp := fun vs H Q _ => ∃ (p : Addr) (B : Bk) (n : Str) (r : Int) (b : Bool), vs = [.ref p, .str n] ∧ BookAt C H p B ∧ (B.ks.map (·.1)).Nodup ∧ (n, r, b) ∈ B.ks ∧ Q (.bl (!b || decide (B.beg = "day"))) H
def sp_why (C : Addr) : Sp := fun vs H Q _ => ∃ (p q : Addr) (B1 B2 : Bk) (n : Str) (r1 : Int) (f1 : Bool) (r2 : Int) (f2 : Bool), vs = [.ref p, .ref q, .str n] ∧ Pair C H p q B1 B2 ∧ Knd B1 B2 n r1 f1 r2 f2 ∧ Q (.str (whyF B1 B2 r1 f1 r2 f2)) H
def sp_by (K : PySem.W.Frag) (C : Addr) (cond : Bk → Bk → Int → Bool → Int → Bool → Prop) : Sp := fun vs H Q _ => ∃ (p q : Addr) (B1 B2 : Bk) (n : Str) (r1 : Int) (f1 : Bool) (r2 : Int) (f2 : Bool), vs = [.ref p, .ref q, .str n] ∧ Pair C H p q B1 B2 ∧ Knd B1 B2 n r1 f1 r2 f2 ∧ cond B1 B2 r1 f1 r2 f2 ∧
  ∀ t H' d, Same H H' → GoodD K H' (.ref t) d → Q (.ref t) H'
def cRate : Bk → Bk → Int → Bool → Int → Bool → Prop := fun _ _ r1 _ r2 _ => r1 > r2
def cPos : Bk → Bk → Int → Bool → Int → Bool → Prop := fun _ _ r1 _ _ _ => 0 < r1
def cMem : Bk → Bk → Int → Bool → Int → Bool → Prop := fun B1 B2 r1 _ _ _ => 0 < r1 ∧ (B1.beg = "day" ∨ B2.due > 0)
def sp_course_for (K : PySem.W.Frag) (C : Addr) : Sp := fun vs H Q _ => ∃ (p q : Addr) (B1 B2 : Bk) (n : Str) (r1 : Int) (f1 : Bool) (r2 : Int) (f2 : Bool), vs = [.ref p, .ref q, .str n] ∧ Pair C H p q B1 B2 ∧ Knd B1 B2 n r1 f1 r2 f2 ∧
  ∀ v H', Same H H' → CrsV K H' (whyF B1 B2 r1 f1 r2 f2) v → Q v H'
section
variable {P : Program} {w : World} {K : PySem.W.Frag} {mg : Str → Option Value} {base : Heap}
theorem ok_are_of_one_sort {f C : Addr} {fd : FuncData} (T : Tx K mg) (F : FnP K "are_of_one_sort" s_are_of_one_sort f fd) (m_laid : Dpr P w K mg base CX0 1 C "laid" (sp_g_laid C)) (m_lengths : Dpr P w K mg base CX0 1 C "lengths" (sp_g_lengths C)) (m_kinds : Dpr P w K mg base CX0 1 C "kinds" (sp_g_kinds C)) :
    FnOk P w K mg base CX0 3 f fd ["one", "other"] (sp_one_sort C) := by
  have sc : FnScope ["one", "other"] ["one", "other"] (defScope s_are_of_one_sort) := ⟨rfl, rfl, rfl, by decide +kernel, rfl, by decide +kernel, by decide +kernel⟩
  refine F.ok sc (by rintro vs H Q E ⟨_, _, _, _, rfl, _⟩; rfl) (fun cdv A outer s H vs Q E hr h => ⟨_, PSs.nox ((pss_cons (ps_if (PW.pt (pw_or (pt_cmpR op_notN1 (pe_propA m_laid (pv 0) (hr.mono (by decide)) pass0) pe_non (nomark _)) (pw_or1 (pt_cmpR op_notN1 (pe_propA m_laid (pv 1) (hr.mono (by decide)) pass0) pe_non (nomark _))))) (pss_one (ps_ret pe_bl)) pss_nil)
      (pss_one (ps_ret (pe_and (pe_cmpR (eqDK (K := K) rfl hr.units) (pe_propA m_lengths (pv 0) (hr.mono (by decide)) pass0) (pe_propA m_lengths (pv 1) (hr.mono (by decide)) pass0) (nomark _)) (pe_one (pe_cmpR (eqDK (K := K) rfl hr.units) (pe_callTy (c_listD rfl) (by rfl) T.b_list (by decide +kernel) (pa_cons (pe_propA m_kinds (pv 0) (hr.mono (by decide)) pass0) pa_nil)) (pe_callTy (c_listD rfl) (by rfl) T.b_list (by decide +kernel) (pa_cons (pe_propA m_kinds (pv 1) (hr.mono (by decide)) pass0) pa_nil)) (nomark _)))))))), ?_⟩)
  obtain ⟨p, q, B1, B2, rfl, hp, k⟩ := h
  obtain ⟨_, _, _, _, _, h1⟩ := id hp.a
  obtain ⟨_, _, _, _, _, h2⟩ := id hp.b
  walk_at "rd"
  refine r_kProp h1.i ⟨p, B1, rfl, hp.a, fun lv hl => ?_⟩
  rw [hp.n1] at hl
  obtain rfl : lv = .non := hl
  walk_at "rd"
  refine r_kProp h2.i ⟨q, B2, rfl, hp.b, fun lv hl => ?_⟩
  rw [hp.n2] at hl
  obtain rfl : lv = .non := hl
  walk_at "rd"
  refine r_kProp h1.i ⟨p, B1, rfl, hp.a, fun tl htl => ?_⟩
  walk_at "rd"
  refine r_kProp h2.i ⟨q, B2, rfl, hp.b, fun tl2 htl2 => ?_⟩
  walk_at "rd"
  refine r_eqTI (SqT.of htl) (SqT.of htl2) ?_
  rw [decide_eq_true hp.ls]
  walk_at "rd"
  refine r_kProp h1.i ⟨p, B1, rfl, hp.a, fun k1 H1 kv1 _ e1 hk1 ha1 => ?_⟩
  walk_at "rd"
  refine r_listD hk1 fun l1 H2 _ e2 hl1 => ?_
  walk_at "rd"
  have hp2 := hp.keep (e1.trans e2)
  refine r_kProp (h2.keep (e1.trans e2)).i ⟨q, B2, rfl, hp2.b, fun k2 H3 kv2 _ e3 hk2 ha2 => ?_⟩
  walk_at "rd"
  refine r_listD hk2 fun l2 H4 _ e4 hl2 => ?_
  have names : ∀ {G : Hp} {kvs : List (Key × V)} {ks : List (Str × Int × Bool)}, KAt G kvs ks → (kvs.map fun kv => kV kv.1) = (ks.map (·.1)).map V.str := fun h => by
    have e := congrArg (List.map kV) h.keys
    rw [List.map_map, List.map_map] at e
    exact e
  rw [names ha1] at hl1
  rw [names ha2, ← hp.nm] at hl2
  walk_at "rd"
  have lay : ∀ l : List Str, (∀ z ∈ l, PyData.strOk z = true) → PyData.canLayAll0 (l.map PyData.str) = true ∧ PyData.depthAll (l.map PyData.str) = 0 := by
    intro l
    induction l with
    | nil => intro _; exact ⟨rfl, rfl⟩
    | cons a r ih =>
      intro h
      obtain ⟨i1, i2⟩ := ih fun z hz => h z (List.mem_cons_of_mem _ hz)
      refine ⟨?_, ?_⟩
      · rw [List.map_cons, PyData.canLayAll0, i1]
        simp [PyData.canLay0, h a (List.mem_cons_self ..)]
      · rw [List.map_cons, PyData.depthAll, i2]
        simp [PyData.depth]
  obtain ⟨y1, y2⟩ := lay (B1.ks.map (·.1)) fun z hz => name_strOk (hp.o1.kn.nm.ok z hz)
  refine r_eqD_eq (d := .list ((B1.ks.map (·.1)).map .str)) (.lst (SqL.of (e4 _ _ (e3 _ _ hl1))) (dp_strs _)) (.lst (SqL.of hl2) (dp_strs _)) ?_ (k H4 (((e1.trans e2).trans e3).trans e4))
  show (PyData.canLayAll0 _ && decide (PyData.depthAll _ + 1 ≤ 64)) = true
  rw [y1, y2]
  rfl
theorem ok_need_pair {f C : Addr} {fd : FuncData} (T : Tx K mg) (F : FnP K "need_pair" s_need_pair f fd) (d_need_book : Dn P w K mg base CX0 1 "need_book" ["value"] (sp_need_book C)) (d_are_of_one_sort : Dn P w K mg base CX0 3 "are_of_one_sort" ["one", "other"] (sp_one_sort C)) :
    FnOk P w K mg base CX0 4 f fd ["one", "other"] (sp_need_pair C) := by
  have sc : FnScope ["one", "other"] ["one", "other"] (defScope s_need_pair) := ⟨rfl, rfl, rfl, by decide +kernel, rfl, by decide +kernel, by decide +kernel⟩
  refine F.ok sc (by rintro vs H Q E ⟨_, _, _, _, rfl, _⟩; rfl) (fun cdv A outer s H vs Q E hr h => ⟨_, PSs.nox ((pss_cons (ps_expr (pe_fn d_need_book (hr.mono (by decide)) pass0 (pa_cons (pv 0) pa_nil)))
      (pss_cons (ps_expr (pe_fn d_need_book (hr.mono (by decide)) pass0 (pa_cons (pv 1) pa_nil)))
      (pss_one (ps_if (pt_not (pt_val (pe_fn d_are_of_one_sort (hr.mono (by decide)) pass0 (pa_cons (pv 0) (pa_cons (pv 1) pa_nil))))) (pss_one ps_never) pss_nil))))), ?_⟩)
  obtain ⟨p, q, B1, B2, rfl, hp, k⟩ := h
  walk_at "rd"
  refine ⟨p, B1, rfl, hp.a, ?_⟩
  walk_at "rd"
  refine ⟨q, B2, rfl, hp.b, ?_⟩
  walk_at "rd"
  refine ⟨p, q, B1, B2, rfl, hp, fun H1 e1 => ?_⟩
  walk_at "rd"
  exact k H1 e1
theorem ok_is_from_own_day {f C : Addr} {fd : FuncData} (T : Tx K mg) (F : FnP K "is_from_own_day" s_is_from_own_day f fd) (mt_Book_is_free : Dm P w K mg base CX0 1 C "is_free" (sp_is_free C)) (m_begins : Dpr P w K mg base CX0 1 C "begins" (sp_g_begins C)) :
    FnOk P w K mg base CX0 3 f fd ["book", "kind"] (sp_own_day C) := by
  have sc : FnScope ["book", "kind"] ["book", "kind"] (defScope s_is_from_own_day) := ⟨rfl, rfl, rfl, by decide +kernel, rfl, by decide +kernel, by decide +kernel⟩
  refine F.ok sc (by rintro vs H Q E ⟨_, _, _, _, _, rfl, _⟩; rfl) (fun cdv A outer s H vs Q E hr h => ⟨_, PSs.nox ((pss_one (ps_ret (pe_or (pe_not (pe_mt mt_Book_is_free (hr.mono (by decide)) pass0 (pv 0) (pa_cons (pv 1) pa_nil))) (pe_one (pe_cmpR op_eq (pe_propA m_begins (pv 0) (hr.mono (by decide)) pass0) (pe_glob (v := .str "day") (by rfl) T.c_DAY.choose_spec ⟨_, rfl⟩) (nomark _))))))), ?_⟩)
  obtain ⟨p, B, n, r, b, rfl, hB, nd, hm, q⟩ := h
  obtain ⟨_, _, _, _, _, h1⟩ := id hB
  walk_at "rd"
  refine r_kMeth h1.i rfl ?_
  walk_at "rd"
  refine ⟨p, B, n, r, b, rfl, hB, nd, hm, ?_⟩
  walk_at "rd"
  cases b with
  | false =>
    walk_at "rd"
    exact q
  | true =>
    walk_at "rd"
    refine r_kProp h1.i ⟨p, B, rfl, hB, ?_⟩
    walk_at "rd"
    exact q
theorem ok_why_dearer {f C : Addr} {fd : FuncData} (T : Tx K mg) (F : FnP K "why_dearer" s_why_dearer f fd) (mt_Book_rate_of : Dm P w K mg base CX0 1 C "rate_of" (sp_rate_of C)) (mt_Book_is_free : Dm P w K mg base CX0 1 C "is_free" (sp_is_free C))
    (m_begins : Dpr P w K mg base CX0 1 C "begins" (sp_g_begins C)) (m_due : Dpr P w K mg base CX0 1 C "due" (sp_g_due C)) (m_memory : Dpr P w K mg base CX0 1 C "memory" (sp_g_memory C)) (d_is_from_own_day : Dn P w K mg base CX0 3 "is_from_own_day" ["book", "kind"] (sp_own_day C)) :
    FnOk P w K mg base CX0 4 f fd ["one", "other", "kind"] (sp_why C) := by
  have sc : FnScope ["one", "other", "kind", "rate"] ["one", "other", "kind"] (defScope s_why_dearer) := ⟨rfl, rfl, rfl, by decide +kernel, rfl, by decide +kernel, by decide +kernel⟩
  refine F.ok sc (by rintro vs H Q E ⟨_, _, _, _, _, _, _, _, _, rfl, _⟩; rfl) (fun cdv A outer s H vs Q E hr h => ⟨_, PSs.nox ((pss_cons (ps_set (i := 3) sc.nd rfl (by first | exact Or.inl rfl | exact Or.inr rfl) (pe_mt mt_Book_rate_of (hr.mono (by decide)) pass0 (pv 0) (pa_cons (pv 2) pa_nil)))
      (pss_cons (ps_if (pt_cmpR op_eq (pv 3) pe_int (nomark _)) (pss_one (ps_ret pe_str)) pss_nil)
      (pss_cons (ps_if (pt_cmpR op_gt (pv 3) (pe_mt mt_Book_rate_of (hr.mono (by decide)) pass0 (pv 1) (pa_cons (pv 2) pa_nil)) (nomark _)) (pss_one (ps_ret pe_str)) pss_nil)
      (pss_cons (ps_if (pt_not (pt_val (pe_mt mt_Book_is_free (hr.mono (by decide)) pass0 (pv 1) (pa_cons (pv 2) pa_nil)))) (pss_one (ps_ret pe_str)) pss_nil)
      (Evl.pss_cut (ps_if (PW.pt (pw_and (pt_cmpR op_eq (pe_propA m_begins (pv 1) (hr.mono (by decide)) pass0) (pe_glob (v := .str "statement") (by rfl) T.c_STATEMENT.choose_spec ⟨_, rfl⟩) (nomark _)) (pw_and1 (pt_val (pe_fn d_is_from_own_day (hr.mono (by decide)) pass0 (pa_cons (pv 0) (pa_cons (pv 2) pa_nil))))))) (pss_one (ps_ret pe_str)) pss_nil)
      (pss_cons (ps_if (pt_not (pt_val (pe_mt mt_Book_is_free (hr.mono (by decide)) pass0 (pv 0) (pa_cons (pv 2) pa_nil)))) (pss_one (ps_ret pe_str)) pss_nil)
      (pss_cons (ps_if (pt_cmpR op_lt (pe_propA m_due (pv 0) (hr.mono (by decide)) pass0) (pe_propA m_due (pv 1) (hr.mono (by decide)) pass0) (nomark _)) (pss_one (ps_ret pe_str)) pss_nil)
      (Evl.pss_cut (ps_if (PW.pt (pw_and (pt_cmpR op_gt (pe_propA m_memory (pv 0) (hr.mono (by decide)) pass0) (pe_propA m_memory (pv 1) (hr.mono (by decide)) pass0) (nomark _)) (pw_and1 (PW.pt (pw_or (pt_cmpR op_eq (pe_propA m_begins (pv 0) (hr.mono (by decide)) pass0) (pe_glob (v := .str "day") (by rfl) T.c_DAY.choose_spec ⟨_, rfl⟩) (nomark _)) (pw_or1 (pt_cmpR op_gt (pe_propA m_due (pv 1) (hr.mono (by decide)) pass0) pe_int (nomark _)))))))) (pss_one (ps_ret pe_str)) pss_nil)
      (pss_one (ps_ret pe_str))))))))))), ?_⟩)
  obtain ⟨p, q, B1, B2, n, r1, f1, r2, f2, rfl, hp, hk, k⟩ := h
  obtain ⟨_, _, _, _, _, h1⟩ := id hp.a
  obtain ⟨_, _, _, _, _, h2⟩ := id hp.b
  have nd1 := hp.o1.kn.nm.nd
  have nd2 := hp.o2.kn.nm.nd
  have fin : ∀ s, whyF B1 B2 r1 f1 r2 f2 = s → Q (.str s) H := fun s e => by rw [← e]; exact k
  have a1 : (n, r1, f1) ∈ B1.ks := hk.a
  have a2 : (n, r2, f2) ∈ B2.ks := hk.b
  walk_at "rd"
  refine r_kMeth h1.i rfl ?_
  walk_at "rd"
  refine ⟨p, B1, n, r1, f1, rfl, hp.a, nd1, a1, ?_⟩
  walk_at "rd"
  refine w_dec (fun c1 => ?_) (fun c1 => ?_)
  · walk_at "rd"
    exact fin _ (by unfold whyF; rw [if_pos c1])
  walk_at "rd"
  refine r_kMeth h2.i rfl ?_
  walk_at "rd"
  refine ⟨q, B2, n, r2, f2, rfl, hp.b, nd2, a2, ?_⟩
  walk_at "rd"
  refine w_dec (fun c2 => ?_) (fun c2 => ?_)
  · walk_at "rd"
    exact fin _ (by unfold whyF; rw [if_neg c1, if_pos c2])
  walk_at "rd"
  refine r_kMeth h2.i rfl ?_
  walk_at "rd"
  refine ⟨q, B2, n, r2, f2, rfl, hp.b, nd2, a2, ?_⟩
  walk_at "rd"
  refine w_nb (fun c3 => ?_) (fun c3 => ?_)
  · walk_at "rd"
    exact fin _ (by unfold whyF; rw [if_neg c1, if_neg c2, if_pos c3])
  have c3' : ¬ f2 = false := by rw [c3]; decide
  refine r_cut (fun σ' H' => σ' = [some (.ref p), some (.ref q), some (.str n), some (.int r1)] ∧ H = H' ∧ ¬ (B2.beg = "statement" ∧ (f1 = false ∨ B1.beg = "day"))) ?_ ?_
  · walk_at "rd"
    refine r_kProp h2.i ⟨q, B2, rfl, hp.b, ?_⟩
    walk_at "rd"
    refine w_dec (fun c4 => ?_) (fun c4 => ?_)
    · walk_at "rd"
      refine ⟨p, B1, n, r1, f1, rfl, hp.a, nd1, a1, ?_⟩
      walk_at "rd"
      refine w_b (fun c5 => ?_) (fun c5 => ?_)
      · walk_at "rd"
        have c5' : f1 = false ∨ B1.beg = "day" := by
          cases f1 with
          | false => exact .inl rfl
          | true => exact .inr (of_decide_eq_true (by simpa using c5))
        exact fin _ (by unfold whyF; rw [if_neg c1, if_neg c2, if_neg c3', if_pos ⟨c4, c5'⟩])
      · walk_at "rd"
        refine ⟨rfl, rfl, fun z => ?_⟩
        rcases z.2 with z2 | z2
        · rw [z2] at c5
          cases c5
        · rw [decide_eq_true z2, Bool.or_true] at c5
          cases c5
    · walk_at "rd"
      exact ⟨rfl, rfl, fun z => c4 z.1⟩
  rintro σ' H' ⟨rfl, rfl, c4⟩
  walk_at "rd"
  refine r_kMeth h1.i rfl ?_
  walk_at "rd"
  refine ⟨p, B1, n, r1, f1, rfl, hp.a, nd1, a1, ?_⟩
  walk_at "rd"
  refine w_nb (fun c5 => ?_) (fun c5 => ?_)
  · walk_at "rd"
    exact fin _ (by unfold whyF; rw [if_neg c1, if_neg c2, if_neg c3', if_neg c4, if_pos c5])
  have c5' : ¬ f1 = false := by rw [c5]; decide
  walk_at "rd"
  refine r_kProp h1.i ⟨p, B1, rfl, hp.a, ?_⟩
  walk_at "rd"
  refine r_kProp h2.i ⟨q, B2, rfl, hp.b, ?_⟩
  walk_at "rd"
  refine w_dec (fun c6 => ?_) (fun c6 => ?_)
  · walk_at "rd"
    exact fin _ (by unfold whyF; rw [if_neg c1, if_neg c2, if_neg c3', if_neg c4, if_neg c5', if_pos c6])
  refine r_cut (fun σ' H' => σ' = [some (.ref p), some (.ref q), some (.str n), some (.int r1)] ∧ H = H' ∧ ¬ (B1.mem > B2.mem ∧ (B1.beg = "day" ∨ B2.due > 0))) ?_ ?_
  · have yes : B1.mem > B2.mem ∧ (B1.beg = "day" ∨ B2.due > 0) → Q (.str "memory") H := fun c => fin _ (by unfold whyF; rw [if_neg c1, if_neg c2, if_neg c3', if_neg c4, if_neg c5', if_neg c6, if_pos c])
    walk_at "rd"
    refine r_kProp h1.i ⟨p, B1, rfl, hp.a, ?_⟩
    walk_at "rd"
    refine r_kProp h2.i ⟨q, B2, rfl, hp.b, ?_⟩
    walk_at "rd"
    refine w_dec (fun c7 => ?_) (fun c7 => ?_)
    · walk_at "rd"
      refine r_kProp h1.i ⟨p, B1, rfl, hp.a, ?_⟩
      walk_at "rd"
      refine w_dec (fun c8 => ?_) (fun c8 => ?_)
      · walk_at "rd"
        exact yes ⟨c7, .inl c8⟩
      · walk_at "rd"
        refine r_kProp h2.i ⟨q, B2, rfl, hp.b, ?_⟩
        walk_at "rd"
        refine w_dec (fun c9 => ?_) (fun c9 => ?_)
        · walk_at "rd"
          exact yes ⟨c7, .inr c9⟩
        · walk_at "rd"
          exact ⟨rfl, rfl, fun z => z.2.elim c8 c9⟩
    · walk_at "rd"
      exact ⟨rfl, rfl, fun z => c7 z.1⟩
  rintro σ' H' ⟨rfl, rfl, c7⟩
  walk_at "rd"
  exact fin _ (by unfold whyF; rw [if_neg c1, if_neg c2, if_neg c3', if_neg c4, if_neg c5', if_neg c6, if_neg c7])
end
end Wp
set_option Elab.async false
set_option linter.all false
set_option maxRecDepth 100000
set_option maxHeartbeats 4000000
namespace Wp
open PySem PySem.Spec PyProof.Rows L2
local macro_rules | `(tactic| walk_at "val") => `(tactic| assumption)
local macro_rules | `(tactic| walk_at "rd1") => `(tactic| first
  | with_reducible refine r_seq ?_ | with_reducible refine r_next ?_ | with_reducible refine r_if ?_ | with_reducible refine r_asg ?_ | with_reducible refine r_gname ?_
  | with_reducible refine r_ret ?_ | with_reducible refine r_retN ?_ | with_reducible refine r_drop ?_ | with_reducible refine r_par ?_ | with_reducible refine r_kPar ?_
  | ((with_reducible refine' r_var ?hv ?_); (case hv => exact rfl)) | with_reducible refine r_c ?_ | with_reducible refine r_nil ?_ | with_reducible refine r_cons ?_
  | with_reducible refine r_fn ?_ | with_reducible refine r_cb ?_ | with_reducible refine r_op ?_ | with_reducible refine r_un ?_ | with_reducible refine r_I0 ?_
  | with_reducible refine r_pow5 ?_ | with_reducible refine r_pow6 ?_ | with_reducible refine r_pow7 ?_ | with_reducible refine r_pow9 ?_ | with_reducible refine r_pow18 ?_ | with_reducible refine r_pow20 ?_ | with_reducible refine r_pow30 ?_
  | with_reducible refine r_isN_non ?_ | with_reducible refine r_isN_ref ?_ | with_reducible refine r_isN_int ?_ | with_reducible refine r_isN_str ?_ | with_reducible refine r_isN_bl ?_ | with_reducible refine r_notN_non ?_ | with_reducible refine r_notN_ref ?_ | with_reducible refine r_notN_int ?_ | with_reducible refine r_notN_str ?_ | with_reducible refine r_notN_bl ?_
  | ((with_reducible refine r_I ?hc ?_); (case hc => walk_at "side")) | with_reducible refine r_U ?_
  | with_reducible refine r_eqI ?_ | with_reducible refine r_neI ?_ | with_reducible refine r_eqS ?_ | with_reducible refine r_neS ?_ | with_reducible refine r_eqB ?_ | with_reducible refine r_neB ?_
  | with_reducible refine r_chain ?_ | with_reducible refine r_test ?_ | with_reducible refine r_tB ?_ | with_reducible refine r_kTest ?_ | with_reducible refine r_not ?_
  | with_reducible refine r_and ?_ | with_reducible refine r_or ?_ | with_reducible refine r_tif ?_ | with_reducible refine r_andV ?_ | with_reducible refine r_orV ?_ | with_reducible refine r_notV ?_
  | with_reducible refine r_kAndV ?_ | with_reducible refine r_kOrV ?_ | with_reducible refine r_kNotV ?_
  | with_reducible refine w_T ?_ | with_reducible refine w_F ?_ | with_reducible refine w_NT ?_ | with_reducible refine w_NF ?_
  | with_reducible refine r_tup ?_ | with_reducible refine r_lst ?_ | with_reducible refine r_fld ?_ | with_reducible refine r_prop ?_ | ((with_reducible refine' r_aug ?h1 ?_); (case h1 => exact rfl)) | with_reducible refine r_ipI ?_ | with_reducible refine r_dget ?_ | with_reducible refine r_dput ?_ | with_reducible refine r_bm ?_
  | ((with_reducible refine' r_kDGetS ?h1 ?h2 ?_); (case h1 => assumption); (case h2 => walk_at "val"))
  | ((with_reducible refine' r_kBML ?h1 ?_); (case h1 => assumption))
  | with_reducible refine r_forL ?_ | with_reducible refine r_forR1 ?_ | with_reducible refine r_forR2 ?_ | with_reducible refine r_forT ?_ | with_reducible refine r_lcL ?_ | with_reducible refine r_lcR1 ?_
  | ((with_reducible refine r_kLcG ?hw ?_); (case hw => exact rfl)) | with_reducible refine r_kLcT ?_ | with_reducible refine r_yes ?_
  | with_reducible refine r_pnil ?_ | with_reducible refine r_pcons ?_
  | with_reducible refine r_fnK ?_ | ((with_reducible refine r_kFnK ?hl ?_); (case hl => exact rfl))
  | with_reducible refine r_isi_ii ?_ | with_reducible refine r_isi_ib ?_ | with_reducible refine r_isi_bi ?_ | with_reducible refine r_isi_bb ?_ | with_reducible refine r_isi_ss ?_ | with_reducible refine r_isi_is ?_ | with_reducible refine r_isi_it ?_
  | ((with_reducible refine' r_isi_tt ?h1 ?_); (case h1 => assumption))
  | with_reducible refine r_sfld ?_ | with_reducible refine r_gnil ?_ | with_reducible refine r_gcons ?_
  | ((with_reducible refine' r_gtup ?h1 ?h2 ?_); (case h1 => exact SqT.of (by assumption)); (case h2 => exact rfl))
  | with_reducible refine r_sl ?_ | with_reducible refine r_noPart ?_ | with_reducible refine r_part ?_ | with_reducible refine r_kPart ?_ | with_reducible refine r_m1 ?_ | with_reducible refine r_kM1 ?_ | with_reducible refine r_forS ?_ | with_reducible refine r_lcS ?_ | with_reducible refine r_lcTu ?_ | with_reducible refine r_lcK ?_ | with_reducible refine r_dcL ?_ | with_reducible refine r_lenD ?_
  | ((with_reducible refine r_kDcG ?hw ?_); (case hw => exact rfl)) | with_reducible refine r_kDcT ?_
  | with_reducible refine r_meth ?_ | with_reducible refine r_frz ?_ | with_reducible refine r_par3 ?_ | with_reducible refine r_kPar3 ?_ | with_reducible refine r_dz ?_ | with_reducible refine r_revL ?_ | with_reducible refine r_star ?_ | with_reducible refine r_int1 ?_ | with_reducible refine r_int1b ?_ | with_reducible refine r_min2 ?_ | with_reducible refine r_max2 ?_)
local macro_rules | `(tactic| walk_at "rd") => `(tactic| repeat walk_at "rd1")
local macro_rules | `(tactic| walk_at "side") => `(tactic| first | assumption | exact Or.inr ⟨by decide, by decide⟩ | exact Or.inl ⟨by decide, by decide⟩ | (constructor <;> omega) | omega | decide | (refine Or.inl ⟨?_, ?_⟩ <;> omega) | (refine Or.inr ⟨?_, ?_⟩ <;> omega) | (refine ⟨?_, ?_, ?_⟩ <;> first | decide | omega))
/-- some kind costs more -/
def Dearer (B1 B2 : Bk) : Prop := ∃ n r1 f1 r2 f2, Knd B1 B2 n r1 f1 r2 f2 ∧ ¬ whyF B1 B2 r1 f1 r2 f2 = ""
/-- None, or something -/
def CW (s : Str) (v : V) : Prop := (s = "" ∧ v = .non) ∨ (¬ s = "" ∧ ∃ t, v = .ref t)
theorem CrsV.cw {K : PySem.W.Frag} {H : Hp} {s : Str} {v : V} (h : CrsV K H s v) : CW s v := by
  rcases h with h | ⟨h1, t, _, h2, _⟩
  · exact .inl h
  · exact .inr ⟨h1, t, h2⟩
/-- courses, kind by kind -/
inductive CL (B1 B2 : Bk) : List (Str × Int × Bool) → List V → Prop
  | nil : CL B1 B2 [] []
  | cons {n : Str} {r : Int} {f : Bool} {r2 : Int} {f2 : Bool} {v : V} {ks : List (Str × Int × Bool)} {vs : List V} : Knd B1 B2 n r f r2 f2 → CW (whyF B1 B2 r f r2 f2) v → CL B1 B2 ks vs → CL B1 B2 ((n, r, f) :: ks) (v :: vs)
section
variable {K : PySem.W.Frag} {H H' : Hp} {B1 B2 : Bk} {ks : List (Str × Int × Bool)} {vs : List V}
theorem CL.snoc {n : Str} {r : Int} {f : Bool} {r2 : Int} {f2 : Bool} {v : V} (h : CL B1 B2 ks vs) (h1 : Knd B1 B2 n r f r2 f2) (h2 : CW (whyF B1 B2 r f r2 f2) v) : CL B1 B2 (ks ++ [(n, r, f)]) (vs ++ [v]) := by
  induction h with
  | nil => exact .cons h1 h2 .nil
  | cons h3 h4 _ ih => exact .cons h3 h4 ih
theorem CL.len (h : CL B1 B2 ks vs) : vs.length = ks.length := by
  induction h with
  | nil => rfl
  | cons _ _ _ ih => simp [ih]
theorem CL.mem (h : CL B1 B2 ks vs) : ∀ v ∈ vs, v = .non ∨ ∃ t, v = .ref t := by
  induction h with
  | nil => intro v hv; cases hv
  | cons _ h2 _ ih =>
    intro v hv
    rcases List.mem_cons.mp hv with rfl | hv
    · rcases h2 with ⟨_, h⟩ | ⟨_, h⟩
      · exact .inl h
      · exact .inr h
    · exact ih v hv
theorem knd_one {n : Str} {r r2 r2' : Int} {f f2 f2' : Bool} (nd : (B2.ks.map (·.1)).Nodup) (a : Knd B1 B2 n r f r2 f2) (b : Knd B1 B2 n r f r2' f2') : r2 = r2' ∧ f2 = f2' := by
  have e1 := Bk.find_of nd a.b
  have e2 := Bk.find_of nd b.b
  rw [e1] at e2
  have e := Option.some.inj e2
  simp only [Prod.mk.injEq] at e
  exact e.2
theorem CL.all (nd : (B2.ks.map (·.1)).Nodup) (h : CL B1 B2 ks vs) : (∀ v ∈ vs, v = .non) ↔ ∀ n r f, (n, r, f) ∈ ks → ∃ r2 f2, Knd B1 B2 n r f r2 f2 ∧ whyF B1 B2 r f r2 f2 = "" := by
  induction h with
  | nil => exact ⟨fun _ n r f hm => (by cases hm), fun _ v hv => (by cases hv)⟩
  | @cons n r f r2 f2 v ks vs h1 h2 _ ih =>
    constructor
    · intro hv n' r' f' hm
      rcases List.mem_cons.mp hm with e | hm
      · cases e
        rcases h2 with ⟨h3, _⟩ | ⟨_, t, h4⟩
        · exact ⟨r2, f2, h1, h3⟩
        · have := hv v (List.mem_cons_self ..)
          rw [h4] at this
          cases this
      · exact ih.mp (fun v' hv' => hv v' (List.mem_cons_of_mem _ hv')) n' r' f' hm
    · intro hk v' hv'
      rcases List.mem_cons.mp hv' with rfl | hv'
      · rcases h2 with ⟨_, h3⟩ | ⟨h3, t, h4⟩
        · exact h3
        · exfalso
          obtain ⟨r3, f3, k3, w3⟩ := hk n r f (List.mem_cons_self ..)
          obtain ⟨rfl, rfl⟩ := knd_one nd h1 k3
          exact h3 w3
      · exact ih.mpr (fun n' r' f' hm => hk n' r' f' (List.mem_cons_of_mem _ hm)) v' hv'
theorem CL.no (nd : (B2.ks.map (·.1)).Nodup) (h : CL B1 B2 B1.ks vs) : (∀ v ∈ vs, v = .non) ↔ ¬ Dearer B1 B2 := by
  rw [h.all nd]
  constructor
  · rintro hk ⟨n, r1, f1, r2, f2, k, w⟩
    obtain ⟨r3, f3, k3, w3⟩ := hk n r1 f1 k.a
    obtain ⟨rfl, rfl⟩ := knd_one nd k k3
    exact w w3
  · intro hd n r f hm
    have all : ∀ {ks : List (Str × Int × Bool)} {vs : List V}, CL B1 B2 ks vs → (n, r, f) ∈ ks → ∃ r2 f2, Knd B1 B2 n r f r2 f2 := by
      intro ks vs h
      induction h with
      | nil => intro hm; cases hm
      | @cons n' r' f' r2 f2 v ks vs h1 h2 _ ih =>
        intro hm
        rcases List.mem_cons.mp hm with e | hm
        · cases e
          exact ⟨r2, f2, h1⟩
        · exact ih hm
    obtain ⟨r2, f2, k⟩ := all h hm
    refine ⟨r2, f2, k, ?_⟩
    by_cases hw : whyF B1 B2 r f r2 f2 = ""
    · exact hw
    · exact absurd ⟨n, r, f, r2, f2, k, hw⟩ hd
end
def sp_dearer (C : Addr) : Sp := fun vs H Q _ => ∃ (p q : Addr) (B1 B2 : Bk), vs = [.ref p, .ref q] ∧ Pair C H p q B1 B2 ∧ ∀ v H', Same H H' → (v = .non ∧ ¬ Dearer B1 B2) ∨ (∃ t, v = .ref t ∧ Dearer B1 B2) → Q v H'
def sp_never (C : Addr) : Sp := fun vs H Q _ => ∃ (p q : Addr) (B1 B2 : Bk), vs = [.ref p, .ref q] ∧ Pair C H p q B1 B2 ∧ ∀ (b : Bool) H', Same H H' → (b = true ↔ ¬ Dearer B1 B2) → Q (.bl b) H'
def sp_parting (C : Addr) : Sp := fun vs H Q _ => ∃ (p q : Addr) (B1 B2 : Bk), vs = [.ref p, .ref q] ∧ Pair C H p q B1 B2 ∧ ∀ v H', Same H H' → (v = .non ∧ ¬ Dearer B1 B2 ∧ ¬ Dearer B2 B1) ∨ (∃ t, v = .ref t ∧ (Dearer B1 B2 ∨ Dearer B2 B1)) → Q v H'
def sp_alike (C : Addr) : Sp := fun vs H Q _ => ∃ (p q : Addr) (B1 B2 : Bk), vs = [.ref p, .ref q] ∧ Pair C H p q B1 B2 ∧ ∀ (b : Bool) H', Same H H' → (b = true ↔ ¬ Dearer B1 B2 ∧ ¬ Dearer B2 B1) → Q (.bl b) H'
section
variable {P : Program} {w : World} {K : PySem.W.Frag} {mg : Str → Option Value} {base : Heap}
theorem ok_by_rate {f C : Addr} {fd : FuncData} (T : Tx K mg) (F : FnP K "by_rate" s_by_rate f fd) (mt_Book_rate_of : Dm P w K mg base CX0 1 C "rate_of" (sp_rate_of C)) (mt_Book_first_at : Dm P w K mg base CX0 1 C "first_at" (sp_first_at C)) (mt_Book_due_at : Dm P w K mg base CX0 2 C "due_at" (sp_due_at C)) :
    FnOk P w K mg base CX0 3 f fd ["one", "other", "kind"] (sp_by K C cRate) := by
  have sc : FnScope ["one", "other", "kind", "more", "late"] ["one", "other", "kind"] (defScope s_by_rate) := ⟨rfl, rfl, rfl, by decide +kernel, rfl, by decide +kernel, by decide +kernel⟩
  refine F.ok sc (by rintro vs H Q E ⟨_, _, _, _, _, _, _, _, _, rfl, _⟩; rfl) (fun cdv A outer s H vs Q E hr h => ⟨_, PSs.nox ((pss_cons (ps_set (i := 3) sc.nd rfl (by first | exact Or.inl rfl | exact Or.inr rfl) (pe_op op_sub (pe_mt mt_Book_rate_of (hr.mono (by decide)) pass0 (pv 0) (pa_cons (pv 2) pa_nil)) (pe_mt mt_Book_rate_of (hr.mono (by decide)) pass0 (pv 1) (pa_cons (pv 2) pa_nil))))
      (pss_cons (ps_set (i := 4) sc.nd rfl (by first | exact Or.inl rfl | exact Or.inr rfl) (pe_op op_add (pe_op op_fdiv (pe_op op_mul (pe_mt mt_Book_first_at (hr.mono (by decide)) pass0 (pv 0) (pa_cons pe_int pa_nil)) (pe_mt mt_Book_rate_of (hr.mono (by decide)) pass0 (pv 0) (pa_cons (pv 2) pa_nil))) (pv 3)) pe_int))
      (pss_one (ps_ret (pe_tup (pa_cons (pe_lst (pa_cons (pe_tup (pa_cons (pe_glob (v := .str "buy") (by rfl) T.c_BUY.choose_spec ⟨_, rfl⟩) (pa_cons pe_int (pa_cons (pv 2) (pa_cons pe_int pa_nil))))) pa_nil)) (pa_cons (pe_callB (call_max3Nu rfl) (by rfl) T.b_max (by decide +kernel) (pa_cons (pv 4) (pa_cons (pe_op op_add (pe_mt mt_Book_due_at (hr.mono (by decide)) pass0 (pv 0) (pa_cons pe_int pa_nil)) pe_int) (pa_cons (pe_op op_add (pe_mt mt_Book_due_at (hr.mono (by decide)) pass0 (pv 1) (pa_cons pe_int pa_nil)) pe_int) pa_nil)))) pa_nil)))))))), ?_⟩)
  obtain ⟨p, q, B1, B2, n, r1, f1, r2, f2, rfl, hp, hk, hc, k⟩ := h
  obtain ⟨_, _, _, _, _, h1⟩ := id hp.a
  obtain ⟨_, _, _, _, _, h2⟩ := id hp.b
  have nd1 := hp.o1.kn.nm.nd
  have nd2 := hp.o2.kn.nm.nd
  obtain ⟨g1, g2, g3, g4, g5⟩ := hk.bd hp.o1 hp.o2
  have hc : r1 > r2 := hc
  walk_at "rd"
  refine r_kMeth h1.i rfl ?_
  walk_at "rd"
  refine ⟨p, B1, n, r1, f1, rfl, hp.a, nd1, hk.a, ?_⟩
  walk_at "rd"
  refine r_kMeth h2.i rfl ?_
  walk_at "rd"
  refine ⟨q, B2, n, r2, f2, rfl, hp.b, nd2, hk.b, ?_⟩
  walk_at "rd"
  refine r_kMeth h1.i rfl ?_
  walk_at "rd"
  refine ⟨p, B1, 1, rfl, hp.a, hp.o1, fun H1 e1 => ?_⟩
  have hp1 := hp.keep e1
  walk_at "rd"
  refine r_kMeth (h1.keep e1).i rfl ?_
  walk_at "rd"
  refine ⟨p, B1, n, r1, f1, rfl, hp1.a, nd1, hk.a, ?_⟩
  walk_at "rd"
  refine r_kTup fun t1 H2 _ e2 ht1 => ?_
  walk_at "rd"
  refine r_kLst fun l1 H3 _ e3 hl1 => ?_
  have e13 := (e1.trans e2).trans e3
  walk_at "rd"
  refine r_kMeth (h1.keep e13).i rfl ?_
  walk_at "rd"
  refine ⟨p, B1, 0, rfl, (hp.keep e13).a, hp.o1, fun H4 e4 => ?_⟩
  have e14 := e13.trans e4
  walk_at "rd"
  refine r_kMeth (h2.keep e14).i rfl ?_
  walk_at "rd"
  refine ⟨q, B2, 0, rfl, (hp.keep e14).b, hp.o2, fun H5 e5 => ?_⟩
  walk_at "rd"
  refine r_max3 fun m => ?_
  walk_at "rd"
  refine r_kTup fun t H6 _ e6 ht => ?_
  have e36 := (e4.trans e5).trans e6
  refine k t H6 _ ((e14.trans e5).trans e6) (GoodL.tup (ds := [.list [_], .int m]) (.cons (GoodL.lst (.cons (good_buy g5 (e36 _ _ (e3 _ _ ht1))) .nil) (by simp [PyData.depthAll, PyData.depth]) (e36 _ _ hl1)) (.cons (.int m) .nil)) (by simp [PyData.depthAll, PyData.depth]) ht)
theorem ok_by_begin {f C : Addr} {fd : FuncData} (T : Tx K mg) (F : FnP K "by_begin" s_by_begin f fd) (mt_Book_rate_of : Dm P w K mg base CX0 1 C "rate_of" (sp_rate_of C)) (mt_Book_first_at : Dm P w K mg base CX0 1 C "first_at" (sp_first_at C)) (mt_Book_due_at : Dm P w K mg base CX0 2 C "due_at" (sp_due_at C)) :
    FnOk P w K mg base CX0 3 f fd ["one", "other", "kind"] (sp_by K C cPos) := by
  have sc : FnScope ["one", "other", "kind", "first", "end", "many"] ["one", "other", "kind"] (defScope s_by_begin) := ⟨rfl, rfl, rfl, by decide +kernel, rfl, by decide +kernel, by decide +kernel⟩
  refine F.ok sc (by rintro vs H Q E ⟨_, _, _, _, _, _, _, _, _, rfl, _⟩; rfl) (fun cdv A outer s H vs Q E hr h => ⟨_, PSs.nox ((pss_cons (ps_set (i := 3) sc.nd rfl (by first | exact Or.inl rfl | exact Or.inr rfl) (pe_mt mt_Book_first_at (hr.mono (by decide)) pass0 (pv 0) (pa_cons pe_int pa_nil)))
      (pss_cons (ps_set (i := 4) sc.nd rfl (by first | exact Or.inl rfl | exact Or.inr rfl) (pe_op op_add (pe_callB (c_max2 rfl) (by rfl) T.b_max (by decide +kernel) (pa_cons (pe_mt mt_Book_due_at (hr.mono (by decide)) pass0 (pv 0) (pa_cons pe_int pa_nil)) (pa_cons (pe_mt mt_Book_due_at (hr.mono (by decide)) pass0 (pv 1) (pa_cons pe_int pa_nil)) pa_nil))) pe_int))
      (pss_cons (ps_set (i := 5) sc.nd rfl (by first | exact Or.inl rfl | exact Or.inr rfl) (pe_op op_add (pe_op op_fdiv (pe_op op_mul (pe_mt mt_Book_rate_of (hr.mono (by decide)) pass0 (pv 1) (pa_cons (pv 2) pa_nil)) (pv 4)) (pe_op op_mul (pe_mt mt_Book_rate_of (hr.mono (by decide)) pass0 (pv 0) (pa_cons (pv 2) pa_nil)) (pv 3))) pe_int))
      (pss_one (ps_ret (pe_tup (pa_cons (pe_lst (pa_cons (pe_tup (pa_cons (pe_glob (v := .str "buy") (by rfl) T.c_BUY.choose_spec ⟨_, rfl⟩) (pa_cons pe_int (pa_cons (pv 2) (pa_cons (pv 5) pa_nil))))) (pa_cons (pe_tup (pa_cons (pe_glob (v := .str "buy") (by rfl) T.c_BUY.choose_spec ⟨_, rfl⟩) (pa_cons pe_int (pa_cons (pv 2) (pa_cons pe_int pa_nil))))) (pa_cons (pe_tup (pa_cons (pe_glob (v := .str "pay") (by rfl) T.c_PAY.choose_spec ⟨_, rfl⟩) (pa_cons (pv 3) (pa_cons (pv 5) pa_nil)))) pa_nil)))) (pa_cons (pv 4) pa_nil))))))))), ?_⟩)
  obtain ⟨p, q, B1, B2, n, r1, f1, r2, f2, rfl, hp, hk, hc, k⟩ := h
  obtain ⟨_, _, _, _, _, h1⟩ := id hp.a
  obtain ⟨_, _, _, _, _, h2⟩ := id hp.b
  have nd1 := hp.o1.kn.nm.nd
  have nd2 := hp.o2.kn.nm.nd
  obtain ⟨g1, g2, g3, g4, g5⟩ := hk.bd hp.o1 hp.o2
  have hc : 0 < r1 := hc
  have hf := Bk.first1 hp.o1
  have hm1 : 0 < r1 * B1.first 1 := Int.mul_pos hc (by omega)
  have hm2 : r1 * B1.first 1 ≤ 1000 * 31 := Int.mul_le_mul g2 hf.2 (by omega) (by omega)
  walk_at "rd"
  refine r_kMeth h1.i rfl ?_
  walk_at "rd"
  refine ⟨p, B1, 1, rfl, hp.a, hp.o1, fun H1 e1 => ?_⟩
  walk_at "rd"
  refine r_kMeth (h1.keep e1).i rfl ?_
  walk_at "rd"
  refine ⟨p, B1, 0, rfl, (hp.keep e1).a, hp.o1, fun H2 e2 => ?_⟩
  have e02 := e1.trans e2
  walk_at "rd"
  refine r_kMeth (h2.keep e02).i rfl ?_
  walk_at "rd"
  refine ⟨q, B2, 0, rfl, (hp.keep e02).b, hp.o2, fun H3 e3 => ?_⟩
  have e03 := e02.trans e3
  have hp3 := hp.keep e03
  walk_at "rd"
  refine r_kMeth (h2.keep e03).i rfl ?_
  walk_at "rd"
  refine ⟨q, B2, n, r2, f2, rfl, hp3.b, nd2, hk.b, ?_⟩
  walk_at "rd"
  refine r_kMeth (h1.keep e03).i rfl ?_
  walk_at "rd"
  refine ⟨p, B1, n, r1, f1, rfl, hp3.a, nd1, hk.a, ?_⟩
  walk_at "rd"
  refine r_kTup fun t1 H4 _ e4 ht1 => ?_
  walk_at "rd"
  refine r_kTup fun t2 H5 _ e5 ht2 => ?_
  walk_at "rd"
  refine r_kTup fun t3 H6 _ e6 ht3 => ?_
  walk_at "rd"
  refine r_kLst fun l1 H7 _ e7 hl1 => ?_
  walk_at "rd"
  refine r_kTup fun t H8 _ e8 ht => ?_
  have e78 := e7.trans e8
  refine k t H8 _ ((((e03.trans e4).trans e5).trans e6).trans e78) (GoodL.tup (ds := [.list [_, _, _], .int _]) (.cons (GoodL.lst (.cons (good_buy g5 (e78 _ _ (e6 _ _ (e5 _ _ ht1)))) (.cons (good_buy g5 (e78 _ _ (e6 _ _ ht2))) (.cons (good_pay (e78 _ _ ht3)) .nil))) (by simp [PyData.depthAll, PyData.depth]) (e8 _ _ hl1)) (.cons (.int _) .nil)) (by simp [PyData.depthAll, PyData.depth]) ht)
theorem ok_by_memory {f C : Addr} {fd : FuncData} (T : Tx K mg) (F : FnP K "by_memory" s_by_memory f fd) (mt_Book_rate_of : Dm P w K mg base CX0 1 C "rate_of" (sp_rate_of C)) (mt_Book_first_at : Dm P w K mg base CX0 1 C "first_at" (sp_first_at C)) (mt_Book_due_at : Dm P w K mg base CX0 2 C "due_at" (sp_due_at C))
    (m_memory : Dpr P w K mg base CX0 1 C "memory" (sp_g_memory C)) (m_begins : Dpr P w K mg base CX0 1 C "begins" (sp_g_begins C)) (m_due : Dpr P w K mg base CX0 1 C "due" (sp_g_due C)) :
    FnOk P w K mg base CX0 3 f fd ["one", "other", "kind"] (sp_by K C cMem) := by
  have sc : FnScope ["one", "other", "kind", "month", "late", "begin", "end", "days", "many", "middle"] ["one", "other", "kind"] (defScope s_by_memory) := ⟨rfl, rfl, rfl, by decide +kernel, rfl, by decide +kernel, by decide +kernel⟩
  refine F.ok sc (by rintro vs H Q E ⟨_, _, _, _, _, _, _, _, _, rfl, _⟩; rfl) (fun cdv A outer s H vs Q E hr h => ⟨_, PSs.nox ((pss_cons (ps_set (i := 3) sc.nd rfl (by first | exact Or.inl rfl | exact Or.inr rfl) (pe_op op_add (pe_propA m_memory (pv 1) (hr.mono (by decide)) pass0) pe_int))
      (pss_cons (ps_par3 (i := 4) (j := 5) (l := 6) (by rfl) sc.nd rfl rfl rfl (by decide) (by decide) (by decide) rfl rfl rfl (pa_cons (pe_op op_add (pe_mt mt_Book_due_at (hr.mono (by decide)) pass0 (pv 0) (pa_cons pe_int pa_nil)) pe_int) (pa_cons (pe_mt mt_Book_first_at (hr.mono (by decide)) pass0 (pv 0) (pa_cons (pv 3) pa_nil)) (pa_cons (pe_mt mt_Book_due_at (hr.mono (by decide)) pass0 (pv 1) (pa_cons (pv 3) pa_nil)) pa_nil))) (by rfl))
      (Evl.pss_cut (ps_set (i := 7) sc.nd rfl (by first | exact Or.inl rfl | exact Or.inr rfl) (pe_ifExp (pt_cmpR op_eq (pe_propA m_begins (pv 0) (hr.mono (by decide)) pass0) (pe_glob (v := .str "day") (by rfl) T.c_DAY.choose_spec ⟨_, rfl⟩) (nomark _)) (pe_op op_sub (pv 6) (pv 5)) (pe_propA m_due (pv 1) (hr.mono (by decide)) pass0)))
      (pss_cons (ps_set (i := 8) sc.nd rfl (by first | exact Or.inl rfl | exact Or.inr rfl) (pe_op op_add (pe_op op_fdiv (pe_op op_mul (pe_mt mt_Book_rate_of (hr.mono (by decide)) pass0 (pv 1) (pa_cons (pv 2) pa_nil)) (pv 4)) (pe_op op_mul (pe_mt mt_Book_rate_of (hr.mono (by decide)) pass0 (pv 0) (pa_cons (pv 2) pa_nil)) (pv 7))) pe_int))
      (pss_cons (ps_set (i := 9) sc.nd rfl (by first | exact Or.inl rfl | exact Or.inr rfl) (pe_lst (pa_cons (pe_tup (pa_cons (pe_glob (v := .str "pay") (by rfl) T.c_PAY.choose_spec ⟨_, rfl⟩) (pa_cons (pv 4) (pa_cons pe_int pa_nil)))) (pa_cons (pe_tup (pa_cons (pe_glob (v := .str "buy") (by rfl) T.c_BUY.choose_spec ⟨_, rfl⟩) (pa_cons (pv 5) (pa_cons (pv 2) (pa_cons (pv 8) pa_nil))))) pa_nil))))
      (Evl.pss_cut (ps_if (pt_cmpR op_lt (pv 5) (pv 4) (nomark _)) (pss_one (ps_set (i := 9) sc.nd rfl (by first | exact Or.inl rfl | exact Or.inr rfl) (pe_revLK (K := K) rfl (pv 9)))) pss_nil)
      (pss_one (ps_ret (pe_tup (pa_cons (pe_lst (pa_cons (pe_tup (pa_cons (pe_glob (v := .str "buy") (by rfl) T.c_BUY.choose_spec ⟨_, rfl⟩) (pa_cons pe_int (pa_cons (pv 2) (pa_cons pe_int pa_nil))))) (pa_starK (K := K) rfl (pv 9) pa_nil))) (pa_cons (pv 6) pa_nil)))))))))))), ?_⟩)
  obtain ⟨p, q, B1, B2, n, r1, f1, r2, f2, rfl, hp, hk, hc, k⟩ := h
  obtain ⟨_, _, _, _, _, h1⟩ := id hp.a
  obtain ⟨_, _, _, _, _, h2⟩ := id hp.b
  have nd1 := hp.o1.kn.nm.nd
  have nd2 := hp.o2.kn.nm.nd
  obtain ⟨g1, g2, g3, g4, g5⟩ := hk.bd hp.o1 hp.o2
  obtain ⟨hc, hc2⟩ : 0 < r1 ∧ (B1.beg = "day" ∨ B2.due > 0) := hc
  have m0 := hp.o2.m0
  have m1 := hp.o2.m1
  have hg := Bk.first_gap hp.o2 (m := B2.mem + 1) (by omega) (by omega)
  have hd0 := hp.o2.d0
  have hd1 := Bk.due_le hp.o2
  have hfe : ∀ m, B1.first m = B2.first m := fun m => by
    unfold Bk.first
    rw [hp.ls]
  walk_at "rd"
  refine r_kProp h2.i ⟨q, B2, rfl, hp.b, ?_⟩
  walk_at "rd"
  refine r_kMeth h1.i rfl ?_
  walk_at "rd"
  refine ⟨p, B1, 0, rfl, hp.a, hp.o1, fun H1 e1 => ?_⟩
  walk_at "rd"
  refine r_kMeth (h1.keep e1).i rfl ?_
  walk_at "rd"
  refine ⟨p, B1, B2.mem + 1, rfl, (hp.keep e1).a, hp.o1, fun H2 e2 => ?_⟩
  have e02 := e1.trans e2
  walk_at "rd"
  refine r_kMeth (h2.keep e02).i rfl ?_
  walk_at "rd"
  refine ⟨q, B2, B2.mem + 1, rfl, (hp.keep e02).b, hp.o2, fun H3 e3 => ?_⟩
  have e03 := e02.trans e3
  have hp3 := hp.keep e03
  walk_at "rd"
  generalize hlate : B1.first (0 + 1) + B1.due + 1 = late
  generalize hbegin : B1.first (B2.mem + 1) = begin
  generalize hend : B2.first (B2.mem + 1 + 1) + B2.due = end'
  have gap : 2 ≤ end' - begin ∧ end' - begin ≤ 61 := by
    rw [← hend, ← hbegin, hfe]
    omega
  refine r_cut (fun σ' H' => ∃ days : Int, σ' = [some (.ref p), some (.ref q), some (.str n), some (.int (B2.mem + 1)), some (.int late), some (.int begin), some (.int end'), some (.int days), none, none] ∧ H3 = H' ∧ 0 < days ∧ days ≤ 61) ?_ ?_
  · walk_at "rd"
    refine r_kProp (h1.keep e03).i ⟨p, B1, rfl, hp3.a, ?_⟩
    walk_at "rd"
    refine w_dec (fun c => ?_) (fun c => ?_)
    · walk_at "rd"
      exact ⟨_, rfl, rfl, by omega, by omega⟩
    · walk_at "rd"
      refine r_kProp (h2.keep e03).i ⟨q, B2, rfl, hp3.b, ?_⟩
      walk_at "rd"
      have hc3 : B2.due > 0 := hc2.resolve_left c
      exact ⟨_, rfl, rfl, hc3, by omega⟩
  rintro σ' H' ⟨days, rfl, rfl, dy0, dy1⟩
  have hm1 : 0 < r1 * days := Int.mul_pos hc dy0
  have hm2 : r1 * days ≤ 1000 * 61 := Int.mul_le_mul g2 dy1 (by omega) (by omega)
  walk_at "rd"
  refine r_kMeth (h2.keep e03).i rfl ?_
  walk_at "rd"
  refine ⟨q, B2, n, r2, f2, rfl, hp3.b, nd2, hk.b, ?_⟩
  walk_at "rd"
  refine r_kMeth (h1.keep e03).i rfl ?_
  walk_at "rd"
  refine ⟨p, B1, n, r1, f1, rfl, hp3.a, nd1, hk.a, ?_⟩
  walk_at "rd"
  refine r_kTup fun t1 H4 _ e4 ht1 => ?_
  walk_at "rd"
  refine r_kTup fun t2 H5 _ e5 ht2 => ?_
  walk_at "rd"
  refine r_kLst fun l1 H6 _ e6 hl1 => ?_
  have gp := fun (G : Hp) (e : Same H6 G) => good_pay (K := K) (e _ _ (e6 _ _ (e5 _ _ ht1)))
  have gb := fun (G : Hp) (e : Same H6 G) => good_buy (K := K) g5 (e _ _ (e6 _ _ ht2))
  walk_at "rd"
  refine r_cut (fun σ' H' => ∃ (lm : Addr) (ms : List V) (ds : List PyData) (many : V), σ' = [some (.ref p), some (.ref q), some (.str n), some (.int (B2.mem + 1)), some (.int late), some (.int begin), some (.int end'), some (.int days), some many, some (.ref lm)] ∧ Same H6 H' ∧ H' lm = some (.lst ms) ∧ GoodL K H' ms ds ∧ PyData.depthAll ds ≤ 5 ∧ ms.length = 2) ?_ ?_
  · walk_at "rd"
    refine w_dec (fun c => ?_) (fun c => ?_)
    · walk_at "rd"
      refine r_kRevL (SqL.of hl1) fun l2 H7 _ e7 hl2 => ?_
      walk_at "rd"
      exact ⟨l2, _, _, _, rfl, e7, hl2, .cons (gb _ e7) (.cons (gp _ e7) .nil), by simp [PyData.depthAll, PyData.depth], rfl⟩
    · walk_at "rd"
      exact ⟨l1, _, _, _, rfl, Same.refl _, hl1, .cons (gp _ (Same.refl _)) (.cons (gb _ (Same.refl _)) .nil), by simp [PyData.depthAll, PyData.depth], rfl⟩
  rintro σ' H7 ⟨lm, ms, ds, many, rfl, e7, hlm, gm, gd, lm2⟩
  walk_at "rd"
  refine r_kTup fun t3 H8 _ e8 ht3 => ?_
  walk_at "rd"
  refine r_kStarL (SqL.of (e8 _ _ hlm)) ?_
  walk_at "rd"
  rw [List.append_nil]
  refine r_kLst (fun l3 H9 _ e9 hl3 => ?_) (by rw [List.length_cons, lm2]; decide)
  walk_at "rd"
  refine r_kTup fun t H10 _ e10 ht => ?_
  have e910 := e9.trans e10
  have gall : GoodL K H10 (.ref t3 :: ms) (.tuple [.str "buy", .int 0, .str n, .int 1] :: ds) := .cons (good_buy g5 (e910 _ _ ht3)) (gm.keep (e8.trans e910))
  have gd2 : PyData.depthAll (.tuple [.str "buy", .int 0, .str n, .int 1] :: ds) ≤ 5 := by
    rw [PyData.depthAll]
    simp [PyData.depthAll, PyData.depth]
    omega
  refine k t H10 _ ((((((e03.trans e4).trans e5).trans e6).trans e7).trans e8).trans e910) (GoodL.tup (ds := [.list _, .int end']) (.cons (gall.lst (by omega) (e10 _ _ hl3)) (.cons (.int _) .nil)) ?_ ht)
  rw [PyData.depthAll, PyData.depth, PyData.depthAll]
  simp [PyData.depthAll, PyData.depth]
  omega
end
end Wp
set_option Elab.async false
set_option linter.all false
set_option maxRecDepth 100000
set_option maxHeartbeats 4000000
namespace Wp
open PySem PySem.Spec PyProof.Rows L2
local macro_rules | `(tactic| walk_at "val") => `(tactic| assumption)
local macro_rules | `(tactic| walk_at "rd1") => `(tactic| first
  | with_reducible refine r_seq ?_ | with_reducible refine r_next ?_ | with_reducible refine r_if ?_ | with_reducible refine r_asg ?_ | with_reducible refine r_gname ?_
  | with_reducible refine r_ret ?_ | with_reducible refine r_retN ?_ | with_reducible refine r_drop ?_ | with_reducible refine r_par ?_ | with_reducible refine r_kPar ?_
  | ((with_reducible refine' r_var ?hv ?_); (case hv => exact rfl)) | with_reducible refine r_c ?_ | with_reducible refine r_nil ?_ | with_reducible refine r_cons ?_
  | with_reducible refine r_fn ?_ | with_reducible refine r_cb ?_ | with_reducible refine r_op ?_ | with_reducible refine r_un ?_ | with_reducible refine r_I0 ?_
  | with_reducible refine r_pow5 ?_ | with_reducible refine r_pow6 ?_ | with_reducible refine r_pow7 ?_ | with_reducible refine r_pow9 ?_ | with_reducible refine r_pow18 ?_ | with_reducible refine r_pow20 ?_ | with_reducible refine r_pow30 ?_
  | with_reducible refine r_isN_non ?_ | with_reducible refine r_isN_ref ?_ | with_reducible refine r_isN_int ?_ | with_reducible refine r_isN_str ?_ | with_reducible refine r_isN_bl ?_ | with_reducible refine r_notN_non ?_ | with_reducible refine r_notN_ref ?_ | with_reducible refine r_notN_int ?_ | with_reducible refine r_notN_str ?_ | with_reducible refine r_notN_bl ?_
  | ((with_reducible refine r_I ?hc ?_); (case hc => walk_at "side")) | with_reducible refine r_U ?_
  | with_reducible refine r_eqI ?_ | with_reducible refine r_neI ?_ | with_reducible refine r_eqS ?_ | with_reducible refine r_neS ?_ | with_reducible refine r_eqB ?_ | with_reducible refine r_neB ?_
  | with_reducible refine r_chain ?_ | with_reducible refine r_test ?_ | with_reducible refine r_tB ?_ | with_reducible refine r_kTest ?_ | with_reducible refine r_not ?_
  | with_reducible refine r_and ?_ | with_reducible refine r_or ?_ | with_reducible refine r_tif ?_ | with_reducible refine r_andV ?_ | with_reducible refine r_orV ?_ | with_reducible refine r_notV ?_
  | with_reducible refine r_kAndV ?_ | with_reducible refine r_kOrV ?_ | with_reducible refine r_kNotV ?_
  | with_reducible refine w_T ?_ | with_reducible refine w_F ?_ | with_reducible refine w_NT ?_ | with_reducible refine w_NF ?_
  | with_reducible refine r_tup ?_ | with_reducible refine r_lst ?_ | with_reducible refine r_fld ?_ | with_reducible refine r_prop ?_ | ((with_reducible refine' r_aug ?h1 ?_); (case h1 => exact rfl)) | with_reducible refine r_ipI ?_ | with_reducible refine r_dget ?_ | with_reducible refine r_dput ?_ | with_reducible refine r_bm ?_
  | ((with_reducible refine' r_kDGetS ?h1 ?h2 ?_); (case h1 => assumption); (case h2 => walk_at "val"))
  | ((with_reducible refine' r_kBML ?h1 ?_); (case h1 => assumption))
  | with_reducible refine r_forL ?_ | with_reducible refine r_forR1 ?_ | with_reducible refine r_forR2 ?_ | with_reducible refine r_forT ?_ | with_reducible refine r_lcL ?_ | with_reducible refine r_lcR1 ?_
  | ((with_reducible refine r_kLcG ?hw ?_); (case hw => exact rfl)) | with_reducible refine r_kLcT ?_ | with_reducible refine r_yes ?_
  | with_reducible refine r_pnil ?_ | with_reducible refine r_pcons ?_
  | with_reducible refine r_fnK ?_ | ((with_reducible refine r_kFnK ?hl ?_); (case hl => exact rfl))
  | with_reducible refine r_isi_ii ?_ | with_reducible refine r_isi_ib ?_ | with_reducible refine r_isi_bi ?_ | with_reducible refine r_isi_bb ?_ | with_reducible refine r_isi_ss ?_ | with_reducible refine r_isi_is ?_ | with_reducible refine r_isi_it ?_
  | ((with_reducible refine' r_isi_tt ?h1 ?_); (case h1 => assumption))
  | with_reducible refine r_sfld ?_ | with_reducible refine r_gnil ?_ | with_reducible refine r_gcons ?_
  | ((with_reducible refine' r_gtup ?h1 ?h2 ?_); (case h1 => exact SqT.of (by assumption)); (case h2 => exact rfl))
  | with_reducible refine r_sl ?_ | with_reducible refine r_noPart ?_ | with_reducible refine r_part ?_ | with_reducible refine r_kPart ?_ | with_reducible refine r_m1 ?_ | with_reducible refine r_kM1 ?_ | with_reducible refine r_forS ?_ | with_reducible refine r_lcS ?_ | with_reducible refine r_lcTu ?_ | with_reducible refine r_lcK ?_ | with_reducible refine r_dcL ?_ | with_reducible refine r_lenD ?_
  | ((with_reducible refine r_kDcG ?hw ?_); (case hw => exact rfl)) | with_reducible refine r_kDcT ?_
  | with_reducible refine r_meth ?_ | with_reducible refine r_frz ?_ | with_reducible refine r_par3 ?_ | with_reducible refine r_kPar3 ?_ | with_reducible refine r_dz ?_ | with_reducible refine r_revL ?_ | with_reducible refine r_star ?_ | with_reducible refine r_int1 ?_ | with_reducible refine r_int1b ?_ | with_reducible refine r_min2 ?_ | with_reducible refine r_max2 ?_)
local macro_rules | `(tactic| walk_at "rd") => `(tactic| repeat walk_at "rd1")
local macro_rules | `(tactic| walk_at "side") => `(tactic| first | assumption | exact Or.inr ⟨by decide, by decide⟩ | exact Or.inl ⟨by decide, by decide⟩ | (constructor <;> omega) | omega | decide | (refine Or.inl ⟨?_, ?_⟩ <;> omega) | (refine Or.inr ⟨?_, ?_⟩ <;> omega) | (refine ⟨?_, ?_, ?_⟩ <;> first | decide | omega))
section
variable {P : Program} {w : World} {K : PySem.W.Frag} {mg : Str → Option Value} {base : Heap}
theorem ok_course_for {f C : Addr} {fd : FuncData} (T : Tx K mg) (F : FnP K "course_for" s_course_for f fd) (d_why_dearer : Dn P w K mg base CX0 4 "why_dearer" ["one", "other", "kind"] (sp_why C)) (d_by_rate : Dn P w K mg base CX0 3 "by_rate" ["one", "other", "kind"] (sp_by K C cRate))
    (d_by_begin : Dn P w K mg base CX0 3 "by_begin" ["one", "other", "kind"] (sp_by K C cPos)) (d_by_memory : Dn P w K mg base CX0 3 "by_memory" ["one", "other", "kind"] (sp_by K C cMem)) (mt_Book_due_at : Dm P w K mg base CX0 2 C "due_at" (sp_due_at C)) :
    FnOk P w K mg base CX0 5 f fd ["one", "other", "kind"] (sp_course_for K C) := by
  have sc : FnScope ["one", "other", "kind", "why"] ["one", "other", "kind"] (defScope s_course_for) := ⟨rfl, rfl, rfl, by decide +kernel, rfl, by decide +kernel, by decide +kernel⟩
  refine F.ok sc (by rintro vs H Q E ⟨_, _, _, _, _, _, _, _, _, rfl, _⟩; rfl) (fun cdv A outer s H vs Q E hr h => ⟨_, PSs.nox ((pss_cons (ps_set (i := 3) sc.nd rfl (by first | exact Or.inl rfl | exact Or.inr rfl) (pe_fn d_why_dearer (hr.mono (by decide)) pass0 (pa_cons (pv 0) (pa_cons (pv 1) (pa_cons (pv 2) pa_nil)))))
      (pss_cons (ps_if (pt_cmpR op_eq (pv 3) pe_str (nomark _)) (pss_one (ps_ret (pe_fn d_by_rate (hr.mono (by decide)) pass0 (pa_cons (pv 0) (pa_cons (pv 1) (pa_cons (pv 2) pa_nil)))))) pss_nil)
      (pss_cons (ps_if (pt_cmpR op_eq (pv 3) pe_str (nomark _)) (pss_one (ps_ret (pe_fn d_by_begin (hr.mono (by decide)) pass0 (pa_cons (pv 0) (pa_cons (pv 1) (pa_cons (pv 2) pa_nil)))))) pss_nil)
      (pss_cons (ps_if (pt_cmpR op_eq (pv 3) pe_str (nomark _)) (pss_one (ps_ret (pe_tup (pa_cons (pe_lst (pa_cons (pe_tup (pa_cons (pe_glob (v := .str "buy") (by rfl) T.c_BUY.choose_spec ⟨_, rfl⟩) (pa_cons pe_int (pa_cons (pv 2) (pa_cons pe_int pa_nil))))) pa_nil)) (pa_cons pe_int pa_nil))))) pss_nil)
      (pss_cons (ps_if (pt_cmpR op_eq (pv 3) pe_str (nomark _)) (pss_one (ps_ret (pe_tup (pa_cons (pe_lst (pa_cons (pe_tup (pa_cons (pe_glob (v := .str "buy") (by rfl) T.c_BUY.choose_spec ⟨_, rfl⟩) (pa_cons pe_int (pa_cons (pv 2) (pa_cons pe_int pa_nil))))) pa_nil)) (pa_cons (pe_op op_add (pe_mt mt_Book_due_at (hr.mono (by decide)) pass0 (pv 0) (pa_cons pe_int pa_nil)) pe_int) pa_nil))))) pss_nil)
      (pss_one (ps_ret (pe_ifExp (pt_cmpR op_eq (pv 3) pe_str (nomark _)) (pe_fn d_by_memory (hr.mono (by decide)) pass0 (pa_cons (pv 0) (pa_cons (pv 1) (pa_cons (pv 2) pa_nil)))) pe_non))))))))), ?_⟩)
  obtain ⟨p, q, B1, B2, n, r1, f1, r2, f2, rfl, hp, hk, k⟩ := h
  obtain ⟨_, _, _, _, _, h1⟩ := id hp.a
  obtain ⟨g1, g2, g3, g4, g5⟩ := hk.bd hp.o1 hp.o2
  have ne1 : ¬ ("rate" : Str) = "" := by decide +kernel
  have ne2 : ¬ ("begin" : Str) = "" := by decide +kernel
  have ne3 : ¬ ("free" : Str) = "" := by decide +kernel
  have ne4 : ¬ ("due" : Str) = "" := by decide +kernel
  have ne5 : ¬ ("memory" : Str) = "" := by decide +kernel
  have pos : ∀ {s : Str}, ¬ s = "" → whyF B1 B2 r1 f1 r2 f2 = s → 0 < r1 := fun hn e => by
    have := why_ne (B1 := B1) (B2 := B2) (r1 := r1) (f1 := f1) (r2 := r2) (f2 := f2) (by rw [e]; exact hn)
    omega
  walk_at "rd"
  refine ⟨p, q, B1, B2, n, r1, f1, r2, f2, rfl, hp, hk, ?_⟩
  walk_at "rd"
  refine w_dec (fun c1 => ?_) (fun c1 => ?_)
  · walk_at "rd"
    exact ⟨p, q, B1, B2, n, r1, f1, r2, f2, rfl, hp, hk, why_rate c1, fun t H1 d e1 hg => k _ H1 e1 (.inr ⟨by rw [c1]; exact ne1, t, d, rfl, hg⟩)⟩
  walk_at "rd"
  refine w_dec (fun c2 => ?_) (fun c2 => ?_)
  · walk_at "rd"
    exact ⟨p, q, B1, B2, n, r1, f1, r2, f2, rfl, hp, hk, pos ne2 c2, fun t H1 d e1 hg => k _ H1 e1 (.inr ⟨by rw [c2]; exact ne2, t, d, rfl, hg⟩)⟩
  walk_at "rd"
  refine w_dec (fun c3 => ?_) (fun c3 => ?_)
  · walk_at "rd"
    refine r_kTup fun t1 H1 _ e1 ht1 => ?_
    walk_at "rd"
    refine r_kLst fun l1 H2 _ e2 hl1 => ?_
    walk_at "rd"
    refine r_kTup fun t H3 _ e3 ht => ?_
    exact k _ H3 ((e1.trans e2).trans e3) (.inr ⟨by rw [c3]; exact ne3, t, _, rfl, GoodL.tup (ds := [.list [_], .int _]) (.cons (GoodL.lst (.cons (good_buy g5 (e3 _ _ (e2 _ _ ht1))) .nil) (by simp [PyData.depthAll, PyData.depth]) (e3 _ _ hl1)) (.cons (.int _) .nil)) (by simp [PyData.depthAll, PyData.depth]) ht⟩)
  walk_at "rd"
  refine w_dec (fun c4 => ?_) (fun c4 => ?_)
  · walk_at "rd"
    refine r_kTup fun t1 H1 _ e1 ht1 => ?_
    walk_at "rd"
    refine r_kLst fun l1 H2 _ e2 hl1 => ?_
    have e02 := e1.trans e2
    walk_at "rd"
    refine r_kMeth (h1.keep e02).i rfl ?_
    walk_at "rd"
    refine ⟨p, B1, 0, rfl, (hp.keep e02).a, hp.o1, fun H3 e3 => ?_⟩
    walk_at "rd"
    refine r_kTup fun t H4 _ e4 ht => ?_
    have e34 := e3.trans e4
    exact k _ H4 (e02.trans e34) (.inr ⟨by rw [c4]; exact ne4, t, _, rfl, GoodL.tup (ds := [.list [_], .int _]) (.cons (GoodL.lst (.cons (good_buy g5 (e34 _ _ (e2 _ _ ht1))) .nil) (by simp [PyData.depthAll, PyData.depth]) (e34 _ _ hl1)) (.cons (.int _) .nil)) (by simp [PyData.depthAll, PyData.depth]) ht⟩)
  walk_at "rd"
  refine w_dec (fun c5 => ?_) (fun c5 => ?_)
  · walk_at "rd"
    exact ⟨p, q, B1, B2, n, r1, f1, r2, f2, rfl, hp, hk, ⟨pos ne5 c5, why_memory c5⟩, fun t H1 d e1 hg => k _ H1 e1 (.inr ⟨by rw [c5]; exact ne5, t, d, rfl, hg⟩)⟩
  walk_at "rd"
  refine k _ H (Same.refl _) (.inl ⟨?_, rfl⟩)
  rcases why_cases (B1 := B1) (B2 := B2) (r1 := r1) (f1 := f1) (r2 := r2) (f2 := f2) with h | h | h | h | h | h
  · exact h
  · exact absurd h c1
  · exact absurd h c2
  · exact absurd h c3
  · exact absurd h c4
  · exact absurd h c5
theorem ok_dearer_course {f C : Addr} {fd : FuncData} (T : Tx K mg) (F : FnP K "dearer_course" s_dearer_course f fd) (d_course_for : Dn P w K mg base CX0 5 "course_for" ["one", "other", "kind"] (sp_course_for K C)) (m_kinds : Dpr P w K mg base CX0 1 C "kinds" (sp_g_kinds C)) :
    FnOk P w K mg base CX0 6 f fd ["one", "other"] (sp_dearer C) := by
  have sc : FnScope ["one", "other", "found", "kind", "course"] ["one", "other"] (defScope s_dearer_course) := ⟨rfl, rfl, rfl, by decide +kernel, rfl, by decide +kernel, by decide +kernel⟩
  refine F.ok sc (by rintro vs H Q E ⟨_, _, _, _, rfl, _⟩; rfl) (fun cdv A outer s H vs Q E hr h => ⟨_, PSs.nox ((pss_cons (ps_setLc (i := 2) (own := [("kind", 3)]) (by rfl) sc.nd rfl rfl (sw_true rfl rfl rfl (by decide +kernel)) (pi_keys (pe_frz (pe_propA m_kinds (pv 0) (hr.mono (by decide)) pass0))) (blkOk_by (own := [("kind", 3)]) (N := ["one", "other", "found", "kind", "course"]) (sc := defScope s_dearer_course) (by decide +kernel)) (fun _ _ _ _ _ => (pg_name (i := 3) sc.nd rfl (by first | exact Or.inl rfl | exact Or.inr rfl))) (fun _ _ _ _ _ => pts_nil) (fun _ _ _ _ _ => (pe_fn d_course_for (hr.mono (by decide)) pass0 (pa_cons (pv 0) (pa_cons (pv 1) (pa_cons (pv 3) pa_nil))))))
      (pss_cons (ps_setLc (i := 2) (own := [("course", 4)]) (by rfl) sc.nd rfl rfl (sw_true rfl rfl rfl (by decide +kernel)) (pi_listK (K := K) rfl (pv 2)) (blkOk_by (own := [("course", 4)]) (N := ["one", "other", "found", "kind", "course"]) (sc := defScope s_dearer_course) (by decide +kernel)) (fun _ _ _ _ _ => (pg_name (i := 4) sc.nd rfl (by first | exact Or.inl rfl | exact Or.inr rfl))) (fun _ _ _ _ _ => (pts_one (pt_cmpR op_notN1 (pv 4) pe_non (nomark _)))) (fun _ _ _ _ _ => (pv 4)))
      (pss_one (ps_ret (pe_ifExp (pt_cmpR (neNilK (K := K) rfl hr.units) (pv 2) (pe_lst pa_nil) (nomark _)) (pe_ix (ix_listK (K := K) rfl) (pv 2) pe_int (fun _ _ => rfl)) pe_non)))))), ?_⟩)
  obtain ⟨p, q, B1, B2, rfl, hp, k⟩ := h
  obtain ⟨_, _, _, _, _, h1⟩ := id hp.a
  have hi := hp.o1.kn.hi
  walk_at "rd"
  refine r_kProp h1.i ⟨p, B1, rfl, hp.a, fun kd H1 kvs nk e1 hkd ha => ?_⟩
  walk_at "rd"
  refine r_kFrz hkd fun od H2 hkd2 b2 n2 => ?_
  have e02 : Same H H2 := Same.mut e1 b2 nk
  have ha2 : KAt H2 kvs B1.ks := ha.keep fun t xs ht => b2 _ _ ht (ne_of ht hkd (by intro z; cases z))
  walk_at "rd"
  refine r_kLcK hkd2 (fun Da i H' => Same H2 H' ∧ ∃ vs, H' Da = some (.lst vs) ∧ CL B1 B2 (B1.ks.take i) vs) (fun Da H' _ e h => ⟨e, [], h, .nil⟩) (fun Da i H' h => h.1 _ _ hkd2) ?_ ?_
  · rintro Da i key v H' hD hi' ⟨e3, vs, hDa, hcl⟩
    obtain ⟨n, r, b, t, rfl, rfl, ht, hks⟩ := ha2.get hi'
    have hmem := List.mem_of_getElem? hks
    obtain ⟨⟨n', r2, f2⟩, hm2, hn2⟩ : ∃ x ∈ B2.ks, x.1 = n := by
      have : n ∈ B2.ks.map (·.1) := by
        rw [← hp.nm]
        exact List.mem_map.mpr ⟨_, hmem, rfl⟩
      obtain ⟨x, h1, h2⟩ := List.mem_map.mp this
      exact ⟨x, h1, h2⟩
    obtain rfl : n' = n := hn2
    have kn : Knd B1 B2 n' r b r2 f2 := ⟨hmem, hm2⟩
    walk_at "rd"
    refine ⟨p, q, B1, B2, n', r, b, r2, f2, rfl, hp.keep (e02.trans e3), kn, fun v H4 e4 hv => ?_⟩
    have hl := hcl.len
    rw [List.length_take] at hl
    refine r_kLcE (e4 _ _ hDa) (by omega) fun H5 b5 h5 => ⟨Same.mut (e3.trans e4) b5 hD, _, h5, ?_⟩
    rw [take_more hks]
    exact hcl.snoc kn hv.cw
  · rintro Da H3 hD ⟨e3, vs, hDa, hcl⟩
    rw [ha2.len, List.take_length] at hcl
    have hno := hcl.no hp.o2.kn.nm.nd
    have hvl := hcl.len
    have nDa : H Da = none := by
      cases hq : H Da with
      | none => rfl
      | some o =>
        rw [e02 _ _ hq] at hD
        cases hD
    have e03 := e02.trans e3
    walk_at "rd"
    refine r_kLcL (xs := vs) (fun Db i H' => Same H3 H' ∧ ∃ ws, H' Db = some (.lst ws) ∧ ws.length ≤ i ∧ (∀ w ∈ ws, ∃ t, w = .ref t) ∧ (ws = [] ↔ ∀ v ∈ vs.take i, v = .non)) (SqL.of hDa) (fun Db H' _ e h => ⟨e, [], h, Nat.le_refl _, (fun w hw => by cases hw), by simp⟩) (fun Db i H' h => SqL.of (h.1 _ _ hDa)) ?_ ?_
    · rintro Db i v H' hDb hv ⟨e4, ws, hws, hwl, hwm, hwi⟩
      have hil := (List.getElem?_eq_some_iff.mp hv).1
      have more : ∀ P : V → Prop, (∀ u ∈ vs.take (i + 1), P u) ↔ (∀ u ∈ vs.take i, P u) ∧ P v := fun P => by
        rw [take_more hv]
        simp only [List.mem_append, List.mem_singleton]
        exact ⟨fun h => ⟨fun u hu => h u (.inl hu), h v (.inr rfl)⟩, fun h u hu => hu.elim (h.1 u) fun e => e ▸ h.2⟩
      rcases hcl.mem v (List.mem_of_getElem? hv) with rfl | ⟨t, rfl⟩
      · walk_at "rd"
        refine ⟨e4, ws, hws, by omega, hwm, ?_⟩
        rw [more fun v => v = .non]
        exact ⟨fun h => ⟨hwi.mp h, rfl⟩, fun h => hwi.mpr h.1⟩
      · walk_at "rd"
        refine r_kLcE hws (by omega) fun H5 b5 h5 => ⟨Same.mut e4 b5 hDb, _, h5, by rw [List.length_append]; show ws.length + 1 ≤ i + 1; omega, ?_, ?_⟩
        · intro w hw
          rcases List.mem_append.mp hw with hw | hw
          · exact hwm w hw
          · exact ⟨t, List.mem_singleton.mp hw⟩
        · rw [more fun v => v = .non]
          constructor
          · intro h
            simp at h
          · rintro ⟨_, h⟩
            cases h
    · rintro Db H4 hDb ⟨e4, ws, hws, hwl, hwm, hwi⟩
      rw [List.take_length] at hwi
      have e04 := e03.trans e4
      walk_at "rd"
      refine r_kLst fun l H5 _ e5 hl5 => ?_
      have hws5 := e5 _ _ hws
      refine r_neNilA (SqL.of hws5) (SqL.of hl5) ?_
      walk_at "rd"
      refine w_ndec (fun c => ?_) (fun c => ?_)
      · walk_at "rd"
        cases ws with
        | nil => exact absurd rfl c
        | cons w ws =>
          obtain ⟨t, rfl⟩ := hwm w (List.mem_cons_self ..)
          refine r_ixL (SqL.of hws5) (at_get (n := 0) rfl rfl) ?_
          walk_at "rd"
          refine k _ H5 (e04.trans e5) (.inr ⟨t, rfl, ?_⟩)
          by_cases hd : Dearer B1 B2
          · exact hd
          · exact absurd (hwi.mpr (hno.mpr hd)) c
      · walk_at "rd"
        exact k _ H5 (e04.trans e5) (.inl ⟨rfl, hno.mp (hwi.mp c)⟩)
theorem ok_never_dearer {f C : Addr} {fd : FuncData} (T : Tx K mg) (F : FnP K "never_dearer" s_never_dearer f fd) (d_need_pair : Dn P w K mg base CX0 4 "need_pair" ["one", "other"] (sp_need_pair C)) (d_dearer_course : Dn P w K mg base CX0 6 "dearer_course" ["one", "other"] (sp_dearer C)) :
    FnOk P w K mg base CX0 7 f fd ["one", "other"] (sp_never C) := by
  have sc : FnScope ["one", "other"] ["one", "other"] (defScope s_never_dearer) := ⟨rfl, rfl, rfl, by decide +kernel, rfl, by decide +kernel, by decide +kernel⟩
  refine F.ok sc (by rintro vs H Q E ⟨_, _, _, _, rfl, _⟩; rfl) (fun cdv A outer s H vs Q E hr h => ⟨_, PSs.nox ((pss_cons (ps_expr (pe_fn d_need_pair (hr.mono (by decide)) pass0 (pa_cons (pv 0) (pa_cons (pv 1) pa_nil))))
      (pss_one (ps_ret (pe_cmpR op_isN1 (pe_fn d_dearer_course (hr.mono (by decide)) pass0 (pa_cons (pv 0) (pa_cons (pv 1) pa_nil))) pe_non (nomark _)))))), ?_⟩)
  obtain ⟨p, q, B1, B2, rfl, hp, k⟩ := h
  walk_at "rd"
  refine ⟨p, q, B1, B2, rfl, hp, fun H1 e1 => ?_⟩
  walk_at "rd"
  refine ⟨p, q, B1, B2, rfl, hp.keep e1, fun v H2 e2 hv => ?_⟩
  rcases hv with ⟨rfl, hd⟩ | ⟨t, rfl, hd⟩
  · walk_at "rd"
    exact k true H2 (e1.trans e2) ⟨fun _ => hd, fun _ => rfl⟩
  · walk_at "rd"
    exact k false H2 (e1.trans e2) ⟨fun z => (by cases z), fun z => absurd hd z⟩
theorem ok_parting_course {f C : Addr} {fd : FuncData} (T : Tx K mg) (F : FnP K "parting_course" s_parting_course f fd) (d_dearer_course : Dn P w K mg base CX0 6 "dearer_course" ["one", "other"] (sp_dearer C)) :
    FnOk P w K mg base CX0 7 f fd ["one", "other"] (sp_parting C) := by
  have sc : FnScope ["one", "other", "found"] ["one", "other"] (defScope s_parting_course) := ⟨rfl, rfl, rfl, by decide +kernel, rfl, by decide +kernel, by decide +kernel⟩
  refine F.ok sc (by rintro vs H Q E ⟨_, _, _, _, rfl, _⟩; rfl) (fun cdv A outer s H vs Q E hr h => ⟨_, PSs.nox ((pss_cons (ps_set (i := 2) sc.nd rfl (by first | exact Or.inl rfl | exact Or.inr rfl) (pe_fn d_dearer_course (hr.mono (by decide)) pass0 (pa_cons (pv 0) (pa_cons (pv 1) pa_nil))))
      (pss_one (ps_ret (pe_ifExp (pt_cmpR op_isN1 (pv 2) pe_non (nomark _)) (pe_fn d_dearer_course (hr.mono (by decide)) pass0 (pa_cons (pv 1) (pa_cons (pv 0) pa_nil))) (pv 2)))))), ?_⟩)
  obtain ⟨p, q, B1, B2, rfl, hp, k⟩ := h
  walk_at "rd"
  refine ⟨p, q, B1, B2, rfl, hp, fun v H1 e1 hv => ?_⟩
  rcases hv with ⟨rfl, hd⟩ | ⟨t, rfl, hd⟩
  · walk_at "rd"
    refine ⟨q, p, B2, B1, rfl, (hp.keep e1).swap, fun v H2 e2 hv => ?_⟩
    rcases hv with ⟨rfl, hd2⟩ | ⟨t, rfl, hd2⟩
    · exact k _ H2 (e1.trans e2) (.inl ⟨rfl, hd, hd2⟩)
    · exact k _ H2 (e1.trans e2) (.inr ⟨t, rfl, .inr hd2⟩)
  · walk_at "rd"
    exact k _ H1 e1 (.inr ⟨t, rfl, .inl hd⟩)
theorem ok_alike {f C : Addr} {fd : FuncData} (T : Tx K mg) (F : FnP K "alike" s_alike f fd) (d_need_pair : Dn P w K mg base CX0 4 "need_pair" ["one", "other"] (sp_need_pair C)) (d_parting_course : Dn P w K mg base CX0 7 "parting_course" ["one", "other"] (sp_parting C)) :
    FnOk P w K mg base CX0 8 f fd ["one", "other"] (sp_alike C) := by
  have sc : FnScope ["one", "other"] ["one", "other"] (defScope s_alike) := ⟨rfl, rfl, rfl, by decide +kernel, rfl, by decide +kernel, by decide +kernel⟩
  refine F.ok sc (by rintro vs H Q E ⟨_, _, _, _, rfl, _⟩; rfl) (fun cdv A outer s H vs Q E hr h => ⟨_, PSs.nox ((pss_cons (ps_expr (pe_fn d_need_pair (hr.mono (by decide)) pass0 (pa_cons (pv 0) (pa_cons (pv 1) pa_nil))))
      (pss_one (ps_ret (pe_cmpR op_isN1 (pe_fn d_parting_course (hr.mono (by decide)) pass0 (pa_cons (pv 0) (pa_cons (pv 1) pa_nil))) pe_non (nomark _)))))), ?_⟩)
  obtain ⟨p, q, B1, B2, rfl, hp, k⟩ := h
  walk_at "rd"
  refine ⟨p, q, B1, B2, rfl, hp, fun H1 e1 => ?_⟩
  walk_at "rd"
  refine ⟨p, q, B1, B2, rfl, hp.keep e1, fun v H2 e2 hv => ?_⟩
  rcases hv with ⟨rfl, hd⟩ | ⟨t, rfl, hd⟩
  · walk_at "rd"
    exact k true H2 (e1.trans e2) ⟨fun _ => hd, fun _ => rfl⟩
  · walk_at "rd"
    exact k false H2 (e1.trans e2) ⟨fun z => (by cases z), fun z => absurd hd (fun d => d.elim z.1 z.2)⟩
end
end Wp
set_option Elab.async false
set_option linter.all false
set_option maxRecDepth 100000
set_option maxHeartbeats 4000000
/-! Books of one kind. -/
namespace Wp
open PySem PySem.Spec PyProof.Rows L2
def mk1 (ls : List Int) (due r : Int) (f : Bool) (mem : Int) (beg : Str) : Bk := ⟨ls, due, [("a", r, f)], mem, beg, none⟩
structure Ls (ls : List Int) : Prop where
  l1 : 1 ≤ ls.length
  l2 : ls.length ≤ 4
  l3 : ∀ n ∈ ls, 2 ≤ n ∧ n ≤ 31
theorem low_a : lowB "a" = true := by decide +kernel
theorem name_a : NameOk "a" := ⟨(lowB_ok low_a).1, by decide +kernel, (lowB_ok low_a).2⟩
theorem dsn : ¬ ("day" : Str) = "statement" := by decide +kernel
theorem sdn : ¬ ("statement" : Str) = "day" := by decide +kernel
def Bg (b : Str) : Prop := b = "day" ∨ b = "statement"
theorem ok1 {ls : List Int} {due r mem : Int} {f : Bool} {beg : Str} (hl : Ls ls) (d0 : 0 ≤ due) (d1 : ∀ n ∈ ls, due < n) (r0 : 0 ≤ r) (r1 : r ≤ 1000) (m0 : 0 ≤ mem) (m1 : mem ≤ 2) (hb : Bg beg) : (mk1 ls due r f mem beg).Ok := by
  refine ⟨hl.l1, hl.l2, hl.l3, d0, d1, ⟨Nat.le_refl _, (show 1 ≤ 6 by decide), ⟨?_, ?_⟩, ?_⟩, m0, m1, hb⟩
  · intro z hz
    have : z = "a" := by simpa [mk1] using hz
    rw [this]
    exact name_a
  · simp [mk1]
  · intro k hk
    have : k = (("a" : Str), r, f) := by simpa [mk1] using hk
    rw [this]
    exact ⟨r0, r1⟩
section
variable {ls ls' : List Int} {d r m d' r' m' : Int} {f f' : Bool} {b b' : Str} {B1 B2 : Bk}
theorem w_zero : whyF B1 B2 0 f r' f' = "" := if_pos rfl
theorem w_more (h : r > r') (h0 : r ≠ 0) : ¬ whyF B1 B2 r f r' f' = "" := by
  unfold whyF
  rw [if_neg h0, if_pos h]
  decide +kernel
theorem w_not (h : ¬ r > r') : whyF B1 B2 r f r' false = "" := by
  unfold whyF
  by_cases h0 : r = 0
  · rw [if_pos h0]
  · rw [if_neg h0, if_neg h, if_pos rfl]
theorem w_bound (h : ¬ r > r') (h0 : r ≠ 0) : ¬ whyF B1 B2 r false r' true = "" := by
  unfold whyF
  rw [if_neg h0, if_neg h, if_neg (by decide)]
  by_cases hc : B2.beg = "statement" ∧ (false = false ∨ B1.beg = "day")
  · rw [if_pos hc]
    decide +kernel
  · rw [if_neg hc, if_pos rfl]
    decide +kernel
theorem w_free (h : ¬ r > r') (h0 : r ≠ 0) : whyF B1 B2 r true r' true = "" ↔ ¬ (B2.beg = "statement" ∧ B1.beg = "day") ∧ ¬ B1.due < B2.due ∧ ¬ (B1.mem > B2.mem ∧ (B1.beg = "day" ∨ B2.due > 0)) := by
  unfold whyF
  rw [if_neg h0, if_neg h, if_neg (by decide)]
  by_cases hc : B2.beg = "statement" ∧ (true = false ∨ B1.beg = "day")
  · rw [if_pos hc]
    have hc' : B2.beg = "statement" ∧ B1.beg = "day" := ⟨hc.1, hc.2.resolve_left (by decide)⟩
    exact ⟨fun z => absurd z (by decide +kernel), fun z => absurd hc' z.1⟩
  · have hc' : ¬ (B2.beg = "statement" ∧ B1.beg = "day") := fun z => hc ⟨z.1, .inr z.2⟩
    rw [if_neg hc, if_neg (by decide)]
    by_cases h1 : B1.due < B2.due
    · rw [if_pos h1]
      exact ⟨fun z => absurd z (by decide +kernel), fun z => absurd h1 z.2.1⟩
    · rw [if_neg h1]
      by_cases h2 : B1.mem > B2.mem ∧ (B1.beg = "day" ∨ B2.due > 0)
      · rw [if_pos h2]
        exact ⟨fun z => absurd z (by decide +kernel), fun z => absurd h2 z.2.2⟩
      · rw [if_neg h2]
        exact ⟨fun _ => ⟨hc', h1, h2⟩, fun _ => rfl⟩
end
end Wp
set_option Elab.async false
set_option linter.all false
set_option maxRecDepth 100000
set_option maxHeartbeats 4000000
namespace Wp
open PySem PySem.Spec PyProof.Rows L2
abbrev s__law_both : Stmt := topS 51
abbrev s__law_known_rows : Stmt := topS 52
abbrev s__law_bare_right : Stmt := topS 53
abbrev s__law_fixed_right : Stmt := topS 54
abbrev s_law : Stmt := topS 55
local macro_rules | `(tactic| walk_at "val") => `(tactic| assumption)
local macro_rules | `(tactic| walk_at "rd1") => `(tactic| first
  | with_reducible refine r_seq ?_ | with_reducible refine r_next ?_ | with_reducible refine r_if ?_ | with_reducible refine r_asg ?_ | with_reducible refine r_gname ?_
  | with_reducible refine r_ret ?_ | with_reducible refine r_retN ?_ | with_reducible refine r_drop ?_ | with_reducible refine r_par ?_ | with_reducible refine r_kPar ?_
  | ((with_reducible refine' r_var ?hv ?_); (case hv => exact rfl)) | with_reducible refine r_c ?_ | with_reducible refine r_nil ?_ | with_reducible refine r_cons ?_
  | with_reducible refine r_fn ?_ | with_reducible refine r_cb ?_ | with_reducible refine r_op ?_ | with_reducible refine r_un ?_ | with_reducible refine r_I0 ?_
  | with_reducible refine r_pow5 ?_ | with_reducible refine r_pow6 ?_ | with_reducible refine r_pow7 ?_ | with_reducible refine r_pow9 ?_ | with_reducible refine r_pow18 ?_ | with_reducible refine r_pow20 ?_ | with_reducible refine r_pow30 ?_
  | with_reducible refine r_isN_non ?_ | with_reducible refine r_isN_ref ?_ | with_reducible refine r_isN_int ?_ | with_reducible refine r_isN_str ?_ | with_reducible refine r_isN_bl ?_ | with_reducible refine r_notN_non ?_ | with_reducible refine r_notN_ref ?_ | with_reducible refine r_notN_int ?_ | with_reducible refine r_notN_str ?_ | with_reducible refine r_notN_bl ?_
  | ((with_reducible refine r_I ?hc ?_); (case hc => walk_at "side")) | with_reducible refine r_U ?_
  | with_reducible refine r_eqI ?_ | with_reducible refine r_neI ?_ | with_reducible refine r_eqS ?_ | with_reducible refine r_neS ?_ | with_reducible refine r_eqB ?_ | with_reducible refine r_neB ?_
  | with_reducible refine r_chain ?_ | with_reducible refine r_test ?_ | with_reducible refine r_tB ?_ | with_reducible refine r_kTest ?_ | with_reducible refine r_not ?_
  | with_reducible refine r_and ?_ | with_reducible refine r_or ?_ | with_reducible refine r_tif ?_ | with_reducible refine r_andV ?_ | with_reducible refine r_orV ?_ | with_reducible refine r_notV ?_
  | with_reducible refine r_kAndV ?_ | with_reducible refine r_kOrV ?_ | with_reducible refine r_kNotV ?_
  | with_reducible refine w_T ?_ | with_reducible refine w_F ?_ | with_reducible refine w_NT ?_ | with_reducible refine w_NF ?_
  | with_reducible refine r_tup ?_ | with_reducible refine r_lst ?_ | with_reducible refine r_fld ?_ | with_reducible refine r_prop ?_ | ((with_reducible refine' r_aug ?h1 ?_); (case h1 => exact rfl)) | with_reducible refine r_ipI ?_ | with_reducible refine r_dget ?_ | with_reducible refine r_dput ?_ | with_reducible refine r_bm ?_
  | ((with_reducible refine' r_kDGetS ?h1 ?h2 ?_); (case h1 => assumption); (case h2 => walk_at "val"))
  | ((with_reducible refine' r_kBML ?h1 ?_); (case h1 => assumption))
  | with_reducible refine r_forL ?_ | with_reducible refine r_forR1 ?_ | with_reducible refine r_forR2 ?_ | with_reducible refine r_forT ?_ | with_reducible refine r_lcL ?_ | with_reducible refine r_lcR1 ?_
  | ((with_reducible refine r_kLcG ?hw ?_); (case hw => exact rfl)) | with_reducible refine r_kLcT ?_ | with_reducible refine r_yes ?_
  | with_reducible refine r_pnil ?_ | with_reducible refine r_pcons ?_
  | with_reducible refine r_fnK ?_ | ((with_reducible refine r_kFnK ?hl ?_); (case hl => exact rfl))
  | with_reducible refine r_isi_ii ?_ | with_reducible refine r_isi_ib ?_ | with_reducible refine r_isi_bi ?_ | with_reducible refine r_isi_bb ?_ | with_reducible refine r_isi_ss ?_ | with_reducible refine r_isi_is ?_ | with_reducible refine r_isi_it ?_
  | ((with_reducible refine' r_isi_tt ?h1 ?_); (case h1 => assumption))
  | with_reducible refine r_sfld ?_ | with_reducible refine r_gnil ?_ | with_reducible refine r_gcons ?_
  | ((with_reducible refine' r_gtup ?h1 ?h2 ?_); (case h1 => exact SqT.of (by assumption)); (case h2 => exact rfl))
  | with_reducible refine r_sl ?_ | with_reducible refine r_noPart ?_ | with_reducible refine r_part ?_ | with_reducible refine r_kPart ?_ | with_reducible refine r_m1 ?_ | with_reducible refine r_kM1 ?_ | with_reducible refine r_forS ?_ | with_reducible refine r_lcS ?_ | with_reducible refine r_lcTu ?_ | with_reducible refine r_lcK ?_ | with_reducible refine r_dcL ?_ | with_reducible refine r_lenD ?_
  | ((with_reducible refine r_kDcG ?hw ?_); (case hw => exact rfl)) | with_reducible refine r_kDcT ?_
  | with_reducible refine r_meth ?_ | with_reducible refine r_frz ?_ | with_reducible refine r_par3 ?_ | with_reducible refine r_kPar3 ?_ | with_reducible refine r_dz ?_ | with_reducible refine r_revL ?_ | with_reducible refine r_star ?_ | with_reducible refine r_int1 ?_ | with_reducible refine r_int1b ?_ | with_reducible refine r_min2 ?_ | with_reducible refine r_max2 ?_)
local macro_rules | `(tactic| walk_at "rd") => `(tactic| repeat walk_at "rd1")
local macro_rules | `(tactic| walk_at "side") => `(tactic| first | assumption | exact Or.inr ⟨by decide, by decide⟩ | exact Or.inl ⟨by decide, by decide⟩ | (constructor <;> omega) | omega | decide | (refine Or.inl ⟨?_, ?_⟩ <;> omega) | (refine Or.inr ⟨?_, ?_⟩ <;> omega) | (refine ⟨?_, ?_, ?_⟩ <;> first | decide | omega))
section
variable {C p q : Addr} {H : Hp} {Q : VK} {E : XK} {ls : List Int} {d r m d' r' m' : Int} {f f' : Bool} {b b' : Str} {B B' : Bk} {n : Str} {v : V}
theorem dear1 : Dearer (mk1 ls d r f m b) (mk1 ls d' r' f' m' b') ↔ ¬ whyF (mk1 ls d r f m b) (mk1 ls d' r' f' m' b') r f r' f' = "" := by
  constructor
  · rintro ⟨n, r1, f1, r2, f2, k, h⟩
    have e1 : (n, r1, f1) = (("a" : Str), r, f) := by simpa [mk1] using k.a
    have e2 : (n, r2, f2) = (("a" : Str), r', f') := by simpa [mk1] using k.b
    cases e1
    cases e2
    exact h
  · intro h
    exact ⟨"a", r, f, r', f', ⟨by simp [mk1], by simp [mk1]⟩, h⟩
theorem pair1 (h1 : BookAt C H p (mk1 ls d r f m b)) (h2 : BookAt C H q (mk1 ls d' r' f' m' b')) (o1 : (mk1 ls d r f m b).Ok) (o2 : (mk1 ls d' r' f' m' b').Ok) : Pair C H p q (mk1 ls d r f m b) (mk1 ls d' r' f' m' b') :=
  ⟨h1, h2, o1, o2, rfl, rfl, rfl, rfl⟩
/-- a book of one kind with a part put otherwise -/
theorem u_with (hB : BookAt C H p B) (hl : B.laid = none) (hW : WP H B n v B') (ok : B'.Ok) (hs : ∃ k, B'.ks = [k]) (k : ∀ q H', H q = none → Same H H' → BookAt C H' q B' → Q (.ref q) H') : sp_with_part C [.ref p, .str n, v] H Q E := by
  refine ⟨p, B, B', n, v, rfl, hB, hl, hW, ok, fun q H' ks nq e pm _ hB' => k q H' nq e ?_⟩
  obtain ⟨k0, e0⟩ := hs
  rw [e0] at pm
  have : ks = [k0] := List.perm_singleton.mp pm
  rw [this, ← e0] at hB'
  exact hB'
end
section
variable {H : Hp} {a : Addr} {r : Int} {f : Bool}
/-- the dict of one kind -/
def kv1 (t : Addr) : List (Key × V) := [(Sum.inr ("a" : Str), .ref t)]
theorem kv1_len {t : Addr} : (kv1 t).length ≤ 15 := (by decide : 1 ≤ 15)
theorem kv1_nd {t : Addr} : ((kv1 t).map (·.1)).Nodup := by simp [kv1]
theorem kat1 {t : Addr} (h : H t = some (.tup [.int r, .bl f])) : KAt H (kv1 t) [("a", r, f)] := .cons h .nil
end
def sp_both (C : Addr) : Sp := fun vs H Q _ => ∃ (p q : Addr) (B1 B2 : Bk), vs = [.ref p, .ref q] ∧ Pair C H p q B1 B2 ∧ ∀ (b1 b2 : Bool) t H', H t = none → Same H H' → (b1 = true ↔ ¬ Dearer B1 B2) → (b2 = true ↔ ¬ Dearer B2 B1) → H' t = some (.lst [.bl b1, .bl b2]) → Q (.ref t) H'
/-- a row of what is known of a ground -/
def RowOk (H : Hp) (B : Bk) (v : V) : Prop := ∃ (t l : Addr) (n : Str) (pv : V) (b1 b2 : Bool) (B' : Bk), v = .ref t ∧ H t = some (.tup [.str n, pv, .ref l]) ∧ H l = some (.lst [.bl b1, .bl b2]) ∧ WP H B n pv B' ∧ B'.Ok ∧ (∃ k, B'.ks = [k]) ∧ B'.ls = B.ls ∧ B'.ks.map (·.1) = B.ks.map (·.1) ∧
  (b1 = true ↔ ¬ Dearer B' B) ∧ (b2 = true ↔ ¬ Dearer B B')
theorem RowOk.keep {H H' : Hp} {B : Bk} {v : V} (h : RowOk H B v) (hs : Same H H') : RowOk H' B v := by
  obtain ⟨t, l, n, pv, b1, b2, B', rfl, h1, h2, h3, h4⟩ := h
  exact ⟨t, l, n, pv, b1, b2, B', rfl, hs _ _ h1, hs _ _ h2, h3.keep hs, h4⟩
/-- a row whose list does not stand at N -/
def RowAt (H : Hp) (B : Bk) (N : Addr) (v : V) : Prop := ∃ (t l : Addr) (n : Str) (pv : V) (b1 b2 : Bool) (B' : Bk), v = .ref t ∧ l ≠ N ∧ ¬ n = "lengths" ∧ H t = some (.tup [.str n, pv, .ref l]) ∧ H l = some (.lst [.bl b1, .bl b2]) ∧ WP H B n pv B' ∧ B'.Ok ∧ (∃ k, B'.ks = [k]) ∧ B'.ls = B.ls ∧ B'.ks.map (·.1) = B.ks.map (·.1) ∧
  (b1 = true ↔ ¬ Dearer B' B) ∧ (b2 = true ↔ ¬ Dearer B B')
theorem RowAt.ok {H : Hp} {B : Bk} {N : Addr} {v : V} (h : RowAt H B N v) : RowOk H B v := by
  obtain ⟨t, l, n, pv, b1, b2, B', h0, _, _, h1⟩ := h
  exact ⟨t, l, n, pv, b1, b2, B', h0, h1⟩
theorem RowAt.same {H H' : Hp} {B : Bk} {N : Addr} {v : V} (h : RowAt H B N v) (hs : Same H H') : RowAt H' B N v := by
  obtain ⟨t, l, n, pv, b1, b2, B', rfl, g1, g2, h1, h2, h3, h4⟩ := h
  exact ⟨t, l, n, pv, b1, b2, B', rfl, g1, g2, hs _ _ h1, hs _ _ h2, h3.keep hs, h4⟩
theorem RowAt.but {H H' : Hp} {B : Bk} {N : Addr} {v : V} {ws : List V} (h : RowAt H B N v) (hN : H N = some (.lst ws)) (hb : But N H H') : RowAt H' B N v := by
  obtain ⟨t, l, n, pv, b1, b2, B', rfl, g1, g2, h1, h2, h3, h4⟩ := h
  have nt : ∀ {c : Addr} {xs : List V}, H c = some (.tup xs) → c ≠ N := fun hc => ne_of hc hN (by intro z; cases z)
  refine ⟨t, l, n, pv, b1, b2, B', rfl, g1, g2, hb _ _ h1 (nt h1), hb _ _ h2 g1, ?_, h4⟩
  cases h3 with
  | ls h => exact absurd rfl g2
  | due d => exact .due d
  | ks k1 k2 => exact .ks (hb _ _ k1 (ne_of k1 hN (by intro z; cases z))) (k2.keep fun u xs hu => hb _ _ hu (nt hu))
  | mem m => exact .mem m
  | beg s => exact .beg s
def sp_known_rows (C : Addr) : Sp := fun vs H Q _ => ∃ (p : Addr) (ls : List Int) (d r m : Int) (b : Str), vs = [.ref p, .int r] ∧ BookAt C H p (mk1 ls d r true m b) ∧ (mk1 ls d r true m b).Ok ∧ 1 ≤ r ∧ r ≤ 999 ∧
  ∀ t H' xs, H t = none → Same H H' → H' t = some (.lst xs) → (∀ x ∈ xs, RowOk H' (mk1 ls d r true m b) x) → Q (.ref t) H'
def sp_right1 (C : Addr) : Sp := fun vs H Q _ => ∃ (p : Addr) (ls : List Int) (d r m : Int) (b : Str), vs = [.ref p] ∧ BookAt C H p (mk1 ls d r true m b) ∧ (mk1 ls d r true m b).Ok ∧ ∀ H', Same H H' → Q (.bl true) H'
def sp_right2 (C : Addr) : Sp := fun vs H Q _ => ∃ (p : Addr) (ls : List Int) (d r m : Int) (b : Str), vs = [.ref p, .int r] ∧ BookAt C H p (mk1 ls d r true m b) ∧ (mk1 ls d r true m b).Ok ∧ 1 ≤ r ∧ r ≤ 999 ∧ ∀ H', Same H H' → Q (.bl true) H'
section
variable {P : Program} {w : World} {K : PySem.W.Frag} {mg : Str → Option Value} {base : Heap}
theorem ok__law_both {f C : Addr} {fd : FuncData} (T : Tx K mg) (F : FnP K "_law_both" s__law_both f fd) (d_never_dearer : Dn P w K mg base CX0 7 "never_dearer" ["one", "other"] (sp_never C)) : FnOk P w K mg base CX0 8 f fd ["_law_made", "_law_twin"] (sp_both C) := by
  have sc : FnScope ["_law_made", "_law_twin"] ["_law_made", "_law_twin"] (defScope s__law_both) := ⟨rfl, rfl, rfl, by decide +kernel, rfl, by decide +kernel, by decide +kernel⟩
  refine F.ok sc (by rintro vs H Q E ⟨_, _, _, _, rfl, _⟩; rfl) (fun cdv A outer s H vs Q E hr h => ⟨_, PSs.nox ((pss_one (ps_ret (pe_lst (pa_cons (pe_fn d_never_dearer (hr.mono (by decide)) pass0 (pa_cons (pv 0) (pa_cons (pv 1) pa_nil))) (pa_cons (pe_fn d_never_dearer (hr.mono (by decide)) pass0 (pa_cons (pv 1) (pa_cons (pv 0) pa_nil))) pa_nil)))))), ?_⟩)
  obtain ⟨p, q, B1, B2, rfl, hp, k⟩ := h
  walk_at "rd"
  refine ⟨p, q, B1, B2, rfl, hp, fun b1 H1 e1 h1 => ?_⟩
  walk_at "rd"
  refine ⟨q, p, B2, B1, rfl, (hp.keep e1).swap, fun b2 H2 e2 h2 => ?_⟩
  walk_at "rd"
  refine r_kLst fun t H3 nt e3 ht => k b1 b2 t H3 ((e1.trans e2).free nt) ((e1.trans e2).trans e3) h1 h2 ht
theorem ok__law_bare_right {f C : Addr} {fd : FuncData} (T : Tx K mg) (F : FnP K "_law_bare_right" s__law_bare_right f fd) (mt_Book_with_part : Dm P w K mg base CX0 7 C "with_part" (sp_with_part C)) (d_alike : Dn P w K mg base CX0 8 "alike" ["one", "other"] (sp_alike C)) :
    FnOk P w K mg base CX0 9 f fd ["_law_ground"] (sp_right1 C) := by
  have sc : FnScope ["_law_ground", "_law_plain", "_law_other"] ["_law_ground"] (defScope s__law_bare_right) := ⟨rfl, rfl, rfl, by decide +kernel, rfl, by decide +kernel, by decide +kernel⟩
  refine F.ok sc (by rintro vs H Q E ⟨_, _, _, _, _, _, rfl, _⟩; rfl) (fun cdv A outer s H vs Q E hr h => ⟨_, PSs.nox ((pss_cons (ps_set (i := 1) sc.nd rfl (by first | exact Or.inl rfl | exact Or.inr rfl) (pe_mt mt_Book_with_part (hr.mono (by decide)) pass0 (pv 0) (pa_cons pe_str (pa_cons (pe_disp (pps_cons pe_str (pe_tup (pa_cons pe_int (pa_cons pe_bl pa_nil))) pps_nil) (by rfl) (by rfl) (fun z => by cases z) (by decide)) pa_nil))))
      (pss_cons (ps_set (i := 2) sc.nd rfl (by first | exact Or.inl rfl | exact Or.inr rfl) (pe_mt mt_Book_with_part (hr.mono (by decide)) pass0 (pe_mt mt_Book_with_part (hr.mono (by decide)) pass0 (pe_mt mt_Book_with_part (hr.mono (by decide)) pass0 (pv 1) (pa_cons pe_str (pa_cons pe_int pa_nil))) (pa_cons pe_str (pa_cons pe_str pa_nil))) (pa_cons pe_str (pa_cons pe_int pa_nil))))
      (pss_one (ps_ret (pe_and (pe_fn d_alike (hr.mono (by decide)) pass0 (pa_cons (pv 1) (pa_cons (pv 2) pa_nil))) (pe_one (pe_fn d_alike (hr.mono (by decide)) pass0 (pa_cons (pe_mt mt_Book_with_part (hr.mono (by decide)) pass0 (pv 2) (pa_cons pe_str (pa_cons (pe_disp (pps_cons pe_str (pe_tup (pa_cons pe_int (pa_cons pe_bl pa_nil))) pps_nil) (by rfl) (by rfl) (fun z => by cases z) (by decide)) pa_nil))) (pa_cons (pv 1) pa_nil)))))))))), ?_⟩)
  obtain ⟨p, ls, d, r, m, b, rfl, hB, ok, k⟩ := h
  have hl : Ls ls := ⟨ok.l1, ok.l2, ok.l3⟩
  have z0 : ∀ n ∈ ls, (0 : Int) < n := fun n hn => by
    have := hl.l3 n hn
    omega
  obtain ⟨_, _, _, _, _, i1⟩ := id hB
  walk_at "rd"
  refine r_kMeth i1.i rfl ?_
  walk_at "rd"
  refine r_disp fun kd H1 nk e1 hkd => ?_
  walk_at "rd"
  refine r_kTup fun t1 H2 _ e2 ht1 => ?_
  walk_at "rd"
  refine r_kDisp (kv1 t1) (e2 _ _ hkd) rfl kv1_len kv1_nd fun H3 b3 h3 => ?_
  have e03 : Same H H3 := Same.mut (e1.trans e2) b3 nk
  have ht1' := b3 _ _ ht1 (ne_of ht1 (e2 _ _ hkd) (by intro z; cases z))
  have okp := ok1 (f := true) hl ok.d0 ok.d1 (Int.le_refl 0) (by decide) ok.m0 ok.m1 ok.bg
  walk_at "rd"
  refine u_with (B' := mk1 ls d 0 true m b) (hB.keep e03) rfl (WP.ks h3 (kat1 ht1')) okp ⟨_, rfl⟩ fun p1 H4 np1 e4 hB1 => ?_
  walk_at "rd"
  obtain ⟨_, _, _, _, _, j1⟩ := id hB1
  refine r_kMeth j1.i rfl ?_
  walk_at "rd"
  have ok2 := ok1 (f := true) hl ok.d0 ok.d1 (Int.le_refl 0) (by decide) (show (0 : Int) ≤ 2 by decide) (Int.le_refl 2) ok.bg
  refine u_with (B' := mk1 ls d 0 true 2 b) hB1 rfl (WP.mem 2) ok2 ⟨_, rfl⟩ fun p2 H5 np2 e5 hB2 => ?_
  walk_at "rd"
  obtain ⟨_, _, _, _, _, j2⟩ := id hB2
  refine r_kMeth j2.i rfl ?_
  walk_at "rd"
  have ok3 := ok1 (f := true) (beg := "statement") hl ok.d0 ok.d1 (Int.le_refl 0) (by decide) (show (0 : Int) ≤ 2 by decide) (Int.le_refl 2) (.inr rfl)
  refine u_with (B' := mk1 ls d 0 true 2 "statement") hB2 rfl (WP.beg "statement") ok3 ⟨_, rfl⟩ fun p3 H6 np3 e6 hB3 => ?_
  walk_at "rd"
  obtain ⟨_, _, _, _, _, j3⟩ := id hB3
  refine r_kMeth j3.i rfl ?_
  walk_at "rd"
  have ok4 := ok1 (f := true) (beg := "statement") hl (Int.le_refl 0) z0 (Int.le_refl 0) (by decide) (show (0 : Int) ≤ 2 by decide) (Int.le_refl 2) (.inr rfl)
  refine u_with (B' := mk1 ls 0 0 true 2 "statement") hB3 rfl (WP.due 0) ok4 ⟨_, rfl⟩ fun p4 H7 np4 e7 hB4 => ?_
  have e47 := (e5.trans e6).trans e7
  walk_at "rd"
  have zero : ∀ {d d' r' m m' : Int} {f f' : Bool} {b b' : Str}, ¬ Dearer (mk1 ls d 0 f m b) (mk1 ls d' r' f' m' b') := fun z => dear1.mp z w_zero
  refine ⟨p1, p4, _, _, rfl, pair1 (hB1.keep e47) hB4 okp ok4, fun b1 H8 e8 hb1 => ?_⟩
  obtain rfl : b1 = true := hb1.mpr ⟨zero, zero⟩
  walk_at "rd"
  obtain ⟨_, _, _, _, _, j4⟩ := id (hB4.keep e8)
  refine r_kMeth j4.i rfl ?_
  walk_at "rd"
  refine r_disp fun kd2 H9 nk2 e9 hkd2 => ?_
  walk_at "rd"
  refine r_kTup fun t2 H10 _ e10 ht2 => ?_
  walk_at "rd"
  refine r_kDisp (kv1 t2) (e10 _ _ hkd2) rfl kv1_len kv1_nd fun H11 b11 h11 => ?_
  have e811 : Same H8 H11 := Same.mut (e9.trans e10) b11 nk2
  have ht2' := b11 _ _ ht2 (ne_of ht2 (e10 _ _ hkd2) (by intro z; cases z))
  have ok5 := ok1 (f := false) (beg := "statement") hl (Int.le_refl 0) z0 (Int.le_refl 0) (by decide) (show (0 : Int) ≤ 2 by decide) (Int.le_refl 2) (.inr rfl)
  walk_at "rd"
  refine u_with (B' := mk1 ls 0 0 false 2 "statement") ((hB4.keep e8).keep e811) rfl (WP.ks h11 (kat1 ht2')) ok5 ⟨_, rfl⟩ fun p5 H12 np5 e12 hB5 => ?_
  walk_at "rd"
  have e412 := ((e47.trans e8).trans e811).trans e12
  refine ⟨p5, p1, _, _, rfl, pair1 hB5 (hB1.keep e412) ok5 okp, fun b2 H13 e13 hb2 => ?_⟩
  obtain rfl : b2 = true := hb2.mpr ⟨zero, zero⟩
  walk_at "rd"
  exact k H13 ((e03.trans e4).trans (e412.trans e13))
theorem ok__law_fixed_right {f C : Addr} {fd : FuncData} (T : Tx K mg) (F : FnP K "_law_fixed_right" s__law_fixed_right f fd) (mt_Book_with_part : Dm P w K mg base CX0 7 C "with_part" (sp_with_part C)) (d_alike : Dn P w K mg base CX0 8 "alike" ["one", "other"] (sp_alike C)) (d__law_both : Dn P w K mg base CX0 8 "_law_both" ["_law_made", "_law_twin"] (sp_both C)) :
    FnOk P w K mg base CX0 9 f fd ["_law_ground", "_law_rated"] (sp_right2 C) := by
  have sc : FnScope ["_law_ground", "_law_rated", "_law_plain", "_law_other", "_law_later"] ["_law_ground", "_law_rated"] (defScope s__law_fixed_right) := ⟨rfl, rfl, rfl, by decide +kernel, rfl, by decide +kernel, by decide +kernel⟩
  refine F.ok sc (by rintro vs H Q E ⟨_, _, _, _, _, _, rfl, _⟩; rfl) (fun cdv A outer s H vs Q E hr h => ⟨_, PSs.nox ((pss_cons (ps_set (i := 2) sc.nd rfl (by first | exact Or.inl rfl | exact Or.inr rfl) (pe_mt mt_Book_with_part (hr.mono (by decide)) pass0 (pv 0) (pa_cons pe_str (pa_cons (pe_disp (pps_cons pe_str (pe_tup (pa_cons (pv 1) (pa_cons pe_bl pa_nil))) pps_nil) (by rfl) (by rfl) (fun z => by cases z) (by decide)) pa_nil))))
      (pss_cons (ps_set (i := 3) sc.nd rfl (by first | exact Or.inl rfl | exact Or.inr rfl) (pe_mt mt_Book_with_part (hr.mono (by decide)) pass0 (pe_mt mt_Book_with_part (hr.mono (by decide)) pass0 (pe_mt mt_Book_with_part (hr.mono (by decide)) pass0 (pv 2) (pa_cons pe_str (pa_cons pe_int pa_nil))) (pa_cons pe_str (pa_cons pe_str pa_nil))) (pa_cons pe_str (pa_cons pe_int pa_nil))))
      (pss_cons (ps_set (i := 4) sc.nd rfl (by first | exact Or.inl rfl | exact Or.inr rfl) (pe_mt mt_Book_with_part (hr.mono (by decide)) pass0 (pv 3) (pa_cons pe_str (pa_cons (pe_disp (pps_cons pe_str (pe_tup (pa_cons (pe_op op_add (pv 1) pe_int) (pa_cons pe_bl pa_nil))) pps_nil) (by rfl) (by rfl) (fun z => by cases z) (by decide)) pa_nil))))
      (pss_one (ps_ret (pe_and (pe_fn d_alike (hr.mono (by decide)) pass0 (pa_cons (pv 2) (pa_cons (pv 3) pa_nil))) (pe_one (pe_cmpR (eqDK (K := K) rfl hr.units) (pe_fn d__law_both (hr.mono (by decide)) pass0 (pa_cons (pv 2) (pa_cons (pv 4) pa_nil))) (pe_lst (pa_cons pe_bl (pa_cons pe_bl pa_nil))) (nomark _)))))))))), ?_⟩)
  obtain ⟨p, ls, d, r, m, b, rfl, hB, ok, r0, r1, k⟩ := h
  have hl : Ls ls := ⟨ok.l1, ok.l2, ok.l3⟩
  have z0 : ∀ n ∈ ls, (0 : Int) < n := fun n hn => by
    have := hl.l3 n hn
    omega
  obtain ⟨_, _, _, _, _, i1⟩ := id hB
  walk_at "rd"
  refine r_kMeth i1.i rfl ?_
  walk_at "rd"
  refine r_disp fun kd H1 nk e1 hkd => ?_
  walk_at "rd"
  refine r_kTup fun t1 H2 _ e2 ht1 => ?_
  walk_at "rd"
  refine r_kDisp (kv1 t1) (e2 _ _ hkd) rfl kv1_len kv1_nd fun H3 b3 h3 => ?_
  have e03 : Same H H3 := Same.mut (e1.trans e2) b3 nk
  have ht1' := b3 _ _ ht1 (ne_of ht1 (e2 _ _ hkd) (by intro z; cases z))
  have okp := ok1 (f := false) hl ok.d0 ok.d1 (show 0 ≤ r by omega) (by omega) ok.m0 ok.m1 ok.bg
  walk_at "rd"
  refine u_with (B' := mk1 ls d r false m b) (hB.keep e03) rfl (WP.ks h3 (kat1 ht1')) okp ⟨_, rfl⟩ fun p1 H4 np1 e4 hB1 => ?_
  walk_at "rd"
  obtain ⟨_, _, _, _, _, j1⟩ := id hB1
  refine r_kMeth j1.i rfl ?_
  walk_at "rd"
  have ok2 := ok1 (f := false) hl ok.d0 ok.d1 (show 0 ≤ r by omega) (by omega) (show (0 : Int) ≤ 2 by decide) (Int.le_refl 2) ok.bg
  refine u_with (B' := mk1 ls d r false 2 b) hB1 rfl (WP.mem 2) ok2 ⟨_, rfl⟩ fun p2 H5 np2 e5 hB2 => ?_
  walk_at "rd"
  obtain ⟨_, _, _, _, _, j2⟩ := id hB2
  refine r_kMeth j2.i rfl ?_
  walk_at "rd"
  have ok3 := ok1 (f := false) (beg := "statement") hl ok.d0 ok.d1 (show 0 ≤ r by omega) (by omega) (show (0 : Int) ≤ 2 by decide) (Int.le_refl 2) (.inr rfl)
  refine u_with (B' := mk1 ls d r false 2 "statement") hB2 rfl (WP.beg "statement") ok3 ⟨_, rfl⟩ fun p3 H6 np3 e6 hB3 => ?_
  walk_at "rd"
  obtain ⟨_, _, _, _, _, j3⟩ := id hB3
  refine r_kMeth j3.i rfl ?_
  walk_at "rd"
  have ok4 := ok1 (f := false) (beg := "statement") hl (Int.le_refl 0) z0 (show 0 ≤ r by omega) (by omega) (show (0 : Int) ≤ 2 by decide) (Int.le_refl 2) (.inr rfl)
  refine u_with (B' := mk1 ls 0 r false 2 "statement") hB3 rfl (WP.due 0) ok4 ⟨_, rfl⟩ fun p4 H7 np4 e7 hB4 => ?_
  have e47 := (e5.trans e6).trans e7
  walk_at "rd"
  obtain ⟨_, _, _, _, _, j4⟩ := id hB4
  refine r_kMeth j4.i rfl ?_
  walk_at "rd"
  refine r_disp fun kd2 H9 nk2 e9 hkd2 => ?_
  walk_at "rd"
  refine r_kTup fun t2 H10 _ e10 ht2 => ?_
  walk_at "rd"
  refine r_kDisp (kv1 t2) (e10 _ _ hkd2) rfl kv1_len kv1_nd fun H11 b11 h11 => ?_
  have e711 : Same H7 H11 := Same.mut (e9.trans e10) b11 nk2
  have ht2' := b11 _ _ ht2 (ne_of ht2 (e10 _ _ hkd2) (by intro z; cases z))
  have ok5 := ok1 (f := false) (beg := "statement") hl (Int.le_refl 0) z0 (show 0 ≤ r + 1 by omega) (by omega) (show (0 : Int) ≤ 2 by decide) (Int.le_refl 2) (.inr rfl)
  walk_at "rd"
  refine u_with (B' := mk1 ls 0 (r + 1) false 2 "statement") (hB4.keep e711) rfl (WP.ks h11 (kat1 ht2')) ok5 ⟨_, rfl⟩ fun p5 H12 np5 e12 hB5 => ?_
  have e712 := e711.trans e12
  walk_at "rd"
  have fix : ∀ {d d' r r' m m' : Int} {f : Bool} {b b' : Str}, ¬ r > r' → ¬ Dearer (mk1 ls d r f m b) (mk1 ls d' r' false m' b') := fun h z => dear1.mp z (w_not h)
  refine ⟨p1, p4, _, _, rfl, pair1 ((hB1.keep e47).keep e712) (hB4.keep e712) okp ok4, fun b1 H13 e13 hb1 => ?_⟩
  obtain rfl : b1 = true := hb1.mpr ⟨fix (by omega), fix (by omega)⟩
  walk_at "rd"
  have e413 := (e47.trans e712).trans e13
  refine ⟨p1, p5, _, _, rfl, pair1 (hB1.keep e413) (hB5.keep e13) okp ok5, fun c1 c2 t H14 nt e14 h1 h2 ht => ?_⟩
  obtain rfl : c1 = true := h1.mpr (fix (by omega))
  obtain rfl : c2 = false := by
    cases c2 with
    | false => rfl
    | true => exact absurd (dear1.mpr (w_more (by omega) (by omega))) (h2.mp rfl)
  walk_at "rd"
  refine r_kLst fun l H15 _ e15 hl15 => ?_
  refine r_eqD_eq (d := .list [.bool true, .bool false]) (.lst (SqL.of (e15 _ _ ht)) (.cons (.bl _) (.cons (.bl _) .nil))) (.lst (SqL.of hl15) (.cons (.bl _) (.cons (.bl _) .nil))) (by decide +kernel) ?_
  exact k H15 ((e03.trans e4).trans (e413.trans (e14.trans e15)))
end
end Wp
set_option Elab.async false
set_option linter.all false
set_option maxRecDepth 100000
set_option maxHeartbeats 4000000
namespace Wp
open PySem PySem.Spec PyProof.Rows L2
local macro_rules | `(tactic| walk_at "val") => `(tactic| assumption)
local macro_rules | `(tactic| walk_at "rd1") => `(tactic| first
  | with_reducible refine r_seq ?_ | with_reducible refine r_next ?_ | with_reducible refine r_if ?_ | with_reducible refine r_asg ?_ | with_reducible refine r_gname ?_
  | with_reducible refine r_ret ?_ | with_reducible refine r_retN ?_ | with_reducible refine r_drop ?_ | with_reducible refine r_par ?_ | with_reducible refine r_kPar ?_
  | ((with_reducible refine' r_var ?hv ?_); (case hv => exact rfl)) | with_reducible refine r_c ?_ | with_reducible refine r_nil ?_ | with_reducible refine r_cons ?_
  | with_reducible refine r_fn ?_ | with_reducible refine r_cb ?_ | with_reducible refine r_op ?_ | with_reducible refine r_un ?_ | with_reducible refine r_I0 ?_
  | with_reducible refine r_pow5 ?_ | with_reducible refine r_pow6 ?_ | with_reducible refine r_pow7 ?_ | with_reducible refine r_pow9 ?_ | with_reducible refine r_pow18 ?_ | with_reducible refine r_pow20 ?_ | with_reducible refine r_pow30 ?_
  | with_reducible refine r_isN_non ?_ | with_reducible refine r_isN_ref ?_ | with_reducible refine r_isN_int ?_ | with_reducible refine r_isN_str ?_ | with_reducible refine r_isN_bl ?_ | with_reducible refine r_notN_non ?_ | with_reducible refine r_notN_ref ?_ | with_reducible refine r_notN_int ?_ | with_reducible refine r_notN_str ?_ | with_reducible refine r_notN_bl ?_
  | ((with_reducible refine r_I ?hc ?_); (case hc => walk_at "side")) | with_reducible refine r_U ?_
  | with_reducible refine r_eqI ?_ | with_reducible refine r_neI ?_ | with_reducible refine r_eqS ?_ | with_reducible refine r_neS ?_ | with_reducible refine r_eqB ?_ | with_reducible refine r_neB ?_
  | with_reducible refine r_chain ?_ | with_reducible refine r_test ?_ | with_reducible refine r_tB ?_ | with_reducible refine r_kTest ?_ | with_reducible refine r_not ?_
  | with_reducible refine r_and ?_ | with_reducible refine r_or ?_ | with_reducible refine r_tif ?_ | with_reducible refine r_andV ?_ | with_reducible refine r_orV ?_ | with_reducible refine r_notV ?_
  | with_reducible refine r_kAndV ?_ | with_reducible refine r_kOrV ?_ | with_reducible refine r_kNotV ?_
  | with_reducible refine w_T ?_ | with_reducible refine w_F ?_ | with_reducible refine w_NT ?_ | with_reducible refine w_NF ?_
  | with_reducible refine r_tup ?_ | with_reducible refine r_lst ?_ | with_reducible refine r_fld ?_ | with_reducible refine r_prop ?_ | ((with_reducible refine' r_aug ?h1 ?_); (case h1 => exact rfl)) | with_reducible refine r_ipI ?_ | with_reducible refine r_dget ?_ | with_reducible refine r_dput ?_ | with_reducible refine r_bm ?_
  | ((with_reducible refine' r_kDGetS ?h1 ?h2 ?_); (case h1 => assumption); (case h2 => walk_at "val"))
  | ((with_reducible refine' r_kBML ?h1 ?_); (case h1 => assumption))
  | with_reducible refine r_forL ?_ | with_reducible refine r_forR1 ?_ | with_reducible refine r_forR2 ?_ | with_reducible refine r_forT ?_ | with_reducible refine r_lcL ?_ | with_reducible refine r_lcR1 ?_
  | ((with_reducible refine r_kLcG ?hw ?_); (case hw => exact rfl)) | with_reducible refine r_kLcT ?_ | with_reducible refine r_yes ?_
  | with_reducible refine r_pnil ?_ | with_reducible refine r_pcons ?_
  | with_reducible refine r_fnK ?_ | ((with_reducible refine r_kFnK ?hl ?_); (case hl => exact rfl))
  | with_reducible refine r_isi_ii ?_ | with_reducible refine r_isi_ib ?_ | with_reducible refine r_isi_bi ?_ | with_reducible refine r_isi_bb ?_ | with_reducible refine r_isi_ss ?_ | with_reducible refine r_isi_is ?_ | with_reducible refine r_isi_it ?_
  | ((with_reducible refine' r_isi_tt ?h1 ?_); (case h1 => assumption))
  | with_reducible refine r_sfld ?_ | with_reducible refine r_gnil ?_ | with_reducible refine r_gcons ?_
  | ((with_reducible refine' r_gtup ?h1 ?h2 ?_); (case h1 => exact SqT.of (by assumption)); (case h2 => exact rfl))
  | with_reducible refine r_sl ?_ | with_reducible refine r_noPart ?_ | with_reducible refine r_part ?_ | with_reducible refine r_kPart ?_ | with_reducible refine r_m1 ?_ | with_reducible refine r_kM1 ?_ | with_reducible refine r_forS ?_ | with_reducible refine r_lcS ?_ | with_reducible refine r_lcTu ?_ | with_reducible refine r_lcK ?_ | with_reducible refine r_dcL ?_ | with_reducible refine r_lenD ?_
  | ((with_reducible refine r_kDcG ?hw ?_); (case hw => exact rfl)) | with_reducible refine r_kDcT ?_
  | with_reducible refine r_meth ?_ | with_reducible refine r_frz ?_ | with_reducible refine r_par3 ?_ | with_reducible refine r_kPar3 ?_ | with_reducible refine r_dz ?_ | with_reducible refine r_revL ?_ | with_reducible refine r_star ?_ | with_reducible refine r_int1 ?_ | with_reducible refine r_int1b ?_ | with_reducible refine r_min2 ?_ | with_reducible refine r_max2 ?_)
local macro_rules | `(tactic| walk_at "rd") => `(tactic| repeat walk_at "rd1")
local macro_rules | `(tactic| walk_at "side") => `(tactic| first | assumption | exact Or.inr ⟨by decide, by decide⟩ | exact Or.inl ⟨by decide, by decide⟩ | (constructor <;> omega) | omega | decide | (refine Or.inl ⟨?_, ?_⟩ <;> omega) | (refine Or.inr ⟨?_, ?_⟩ <;> omega) | (refine ⟨?_, ?_, ?_⟩ <;> first | decide | omega))
theorem iffF {p : Prop} (h : ¬ p) : (false = true ↔ p) := ⟨fun z => (by cases z), fun z => absurd z h⟩
theorem iffT {p : Prop} (h : p) : (true = true ↔ p) := ⟨fun _ => h, fun _ => rfl⟩
theorem nkl : ¬ ("kinds" : Str) = "lengths" := by decide +kernel
theorem ndl : ¬ ("due" : Str) = "lengths" := by decide +kernel
theorem nbl : ¬ ("begins" : Str) = "lengths" := by decide +kernel
theorem nml : ¬ ("memory" : Str) = "lengths" := by decide +kernel
section
variable {P : Program} {w : World} {K : PySem.W.Frag} {mg : Str → Option Value} {base : Heap}
theorem ok__law_known_rows {f C : Addr} {fd : FuncData} (T : Tx K mg) (F : FnP K "_law_known_rows" s__law_known_rows f fd) (m_due : Dpr P w K mg base CX0 1 C "due" (sp_g_due C)) (m_begins : Dpr P w K mg base CX0 1 C "begins" (sp_g_begins C)) (m_memory : Dpr P w K mg base CX0 1 C "memory" (sp_g_memory C)) :
    FnOk P w K mg base CX0 3 f fd ["_law_ground", "_law_rated"] (sp_known_rows C) := by
  have sc : FnScope ["_law_ground", "_law_rated", "_law_found", "_law_is_same"] ["_law_ground", "_law_rated"] (defScope s__law_known_rows) := ⟨rfl, rfl, rfl, by decide +kernel, rfl, by decide +kernel, by decide +kernel⟩
  refine F.ok sc (by rintro vs H Q E ⟨_, _, _, _, _, _, rfl, _⟩; rfl) (fun cdv A outer s H vs Q E hr h => ⟨_, PSs.nox ((pss_cons (ps_set (i := 2) sc.nd rfl (by first | exact Or.inl rfl | exact Or.inr rfl) (pe_lst (pa_cons (pe_tup (pa_cons pe_str (pa_cons (pe_disp (pps_cons pe_str (pe_tup (pa_cons (pe_op op_add (pv 1) pe_int) (pa_cons pe_bl pa_nil))) pps_nil) (by rfl) (by rfl) (fun z => by cases z) (by decide)) (pa_cons (pe_lst (pa_cons pe_bl (pa_cons pe_bl pa_nil))) pa_nil)))) (pa_cons (pe_tup (pa_cons pe_str (pa_cons (pe_disp (pps_cons pe_str (pe_tup (pa_cons (pv 1) (pa_cons pe_bl pa_nil))) pps_nil) (by rfl) (by rfl) (fun z => by cases z) (by decide)) (pa_cons (pe_lst (pa_cons pe_bl (pa_cons pe_bl pa_nil))) pa_nil)))) pa_nil))))
      (pss_cons (ps_expr (pe_bmK (K := K) rfl PySem.F.plainAttrs_list PySem.F.slot_list_append PySem.F.type_list_append mt_append (pv 2) (pa_cons (pe_tup (pa_cons pe_str (pa_cons (pe_disp (pps_cons pe_str (pe_tup (pa_cons pe_int (pa_cons pe_bl pa_nil))) pps_nil) (by rfl) (by rfl) (fun z => by cases z) (by decide)) (pa_cons (pe_lst (pa_cons pe_bl (pa_cons pe_bl pa_nil))) pa_nil)))) pa_nil)))
      (pss_cons (ps_expr (pe_bmK (K := K) rfl PySem.F.plainAttrs_list PySem.F.slot_list_append PySem.F.type_list_append mt_append (pv 2) (pa_cons (pe_tup (pa_cons pe_str (pa_cons (pe_disp (pps_cons pe_str (pe_tup (pa_cons pe_int (pa_cons pe_bl pa_nil))) pps_nil) (by rfl) (by rfl) (fun z => by cases z) (by decide)) (pa_cons (pe_lst (pa_cons pe_bl (pa_cons pe_bl pa_nil))) pa_nil)))) pa_nil)))
      (Evl.pss_cut (ps_if (pt_cmpR op_gt (pe_propA m_due (pv 0) (hr.mono (by decide)) pass0) pe_int (nomark _)) (pss_one (ps_expr (pe_bmK (K := K) rfl PySem.F.plainAttrs_list PySem.F.slot_list_append PySem.F.type_list_append mt_append (pv 2) (pa_cons (pe_tup (pa_cons pe_str (pa_cons (pe_op op_sub (pe_propA m_due (pv 0) (hr.mono (by decide)) pass0) pe_int) (pa_cons (pe_lst (pa_cons pe_bl (pa_cons pe_bl pa_nil))) pa_nil)))) pa_nil)))) pss_nil)
      (Evl.pss_cut (ps_if (pt_cmpR op_eq (pe_propA m_begins (pv 0) (hr.mono (by decide)) pass0) pe_str (nomark _)) (pss_one (ps_expr (pe_bmK (K := K) rfl PySem.F.plainAttrs_list PySem.F.slot_list_append PySem.F.type_list_append mt_append (pv 2) (pa_cons (pe_tup (pa_cons pe_str (pa_cons pe_str (pa_cons (pe_lst (pa_cons pe_bl (pa_cons pe_bl pa_nil))) pa_nil)))) pa_nil)))) pss_nil)
      (Evl.pss_cut (ps_if (pt_cmpR op_lt (pe_propA m_memory (pv 0) (hr.mono (by decide)) pass0) pe_int (nomark _)) (pss_cons (ps_set (i := 3) sc.nd rfl (by first | exact Or.inl rfl | exact Or.inr rfl) (pe_and (pe_cmpR op_eq (pe_propA m_begins (pv 0) (hr.mono (by decide)) pass0) pe_str (nomark _)) (pe_one (pe_cmpR op_eq (pe_propA m_due (pv 0) (hr.mono (by decide)) pass0) pe_int (nomark _)))))
      (pss_one (ps_expr (pe_bmK (K := K) rfl PySem.F.plainAttrs_list PySem.F.slot_list_append PySem.F.type_list_append mt_append (pv 2) (pa_cons (pe_tup (pa_cons pe_str (pa_cons (pe_op op_add (pe_propA m_memory (pv 0) (hr.mono (by decide)) pass0) pe_int) (pa_cons (pe_lst (pa_cons (pv 3) (pa_cons pe_bl pa_nil))) pa_nil)))) pa_nil))))) pss_nil)
      (pss_one (ps_ret (pv 2)))))))))), ?_⟩)
  obtain ⟨p, ls, d, r, m, b, rfl, hB, ok, r0, r1, k⟩ := h
  have hl : Ls ls := ⟨ok.l1, ok.l2, ok.l3⟩
  have hbg : Bg b := ok.bg
  have hd0 : 0 ≤ d := ok.d0
  have hm0 : 0 ≤ m := ok.m0
  have hm1 : m ≤ 2 := ok.m1
  obtain ⟨_, _, _, _, _, i1⟩ := id hB
  have okk : ∀ (r' : Int) (f' : Bool), 0 ≤ r' → r' ≤ 1000 → (mk1 ls d r' f' m b).Ok := fun r' f' h1 h2 => ok1 hl ok.d0 ok.d1 h1 h2 ok.m0 ok.m1 ok.bg
  have row : ∀ {G : Hp} {t l kd kt N : Addr} {r' : Int} {f' b1 b2 : Bool}, l ≠ N → G t = some (.tup [.str "kinds", .ref kd, .ref l]) → G l = some (.lst [.bl b1, .bl b2]) → G kd = some (.dK (kv1 kt)) → G kt = some (.tup [.int r', .bl f']) → 0 ≤ r' → r' ≤ 1000 →
      (b1 = true ↔ ¬ Dearer (mk1 ls d r' f' m b) (mk1 ls d r true m b)) → (b2 = true ↔ ¬ Dearer (mk1 ls d r true m b) (mk1 ls d r' f' m b)) → RowAt G (mk1 ls d r true m b) N (.ref t) := fun g1 h1 h2 h3 h4 a1 a2 q1 q2 =>
    ⟨_, _, _, _, _, _, mk1 ls d _ _ m b, rfl, g1, nkl, h1, h2, WP.ks h3 (kat1 h4), okk _ _ a1 a2, ⟨_, rfl⟩, rfl, rfl, q1, q2⟩
  have same : ∀ {d d' m m' : Int} {b b' : Str}, whyF (mk1 ls d r true m b) (mk1 ls d' r true m' b') r true r true = "" ↔ ¬ (b' = "statement" ∧ b = "day") ∧ ¬ d < d' ∧ ¬ (m > m' ∧ (b = "day" ∨ d' > 0)) := w_free (by omega) (by omega)
  have bb : ¬ (b = "statement" ∧ b = "day") := fun z => sdn (z.1.symm.trans z.2)
  walk_at "rd"
  refine r_disp fun k1 H1 nk1 e1 hk1 => ?_
  walk_at "rd"
  refine r_kTup fun t1 H2 nt1 e2 ht1 => ?_
  walk_at "rd"
  refine r_kDisp (kv1 t1) (e2 _ _ hk1) rfl kv1_len kv1_nd fun H3 b3 hk1' => ?_
  have e03 : Same H H3 := Same.mut (e1.trans e2) b3 nk1
  have ht1' := b3 _ _ ht1 (ne_of ht1 (e2 _ _ hk1) (by intro z; cases z))
  walk_at "rd"
  refine r_kLst fun l1 H4 nl1 e4 hl1 => ?_
  walk_at "rd"
  refine r_kTup fun u1 H5 nu1 e5 hu1 => ?_
  have e35 := e4.trans e5
  walk_at "rd"
  refine r_disp fun k2 H6 nk2 e6 hk2 => ?_
  walk_at "rd"
  refine r_kTup fun t2 H7 nt2 e7 ht2 => ?_
  walk_at "rd"
  refine r_kDisp (kv1 t2) (e7 _ _ hk2) rfl kv1_len kv1_nd fun H8 b8 hk2' => ?_
  have e58 : Same H5 H8 := Same.mut (e6.trans e7) b8 nk2
  have ht2' := b8 _ _ ht2 (ne_of ht2 (e7 _ _ hk2) (by intro z; cases z))
  walk_at "rd"
  refine r_kLst fun l2 H9 nl2 e9 hl2 => ?_
  walk_at "rd"
  refine r_kTup fun u2 H10 nu2 e10 hu2 => ?_
  have e810 := e9.trans e10
  walk_at "rd"
  refine r_kLst fun fo H11 nfo e11 hfo => ?_
  have e511 := (e58.trans e810).trans e11
  have e811 := e810.trans e11
  have nfo0 : H fo = none := ((e03.trans e35).trans (e58.trans e810)).free nfo
  have n1 : l1 ≠ fo := ne_of_none ((e58.trans e810) _ _ (e5 _ _ hl1)) nfo
  have n2 : l2 ≠ fo := ne_of_none (e10 _ _ hl2) nfo
  have R1 : RowAt H11 (mk1 ls d r true m b) fo (.ref u1) := row n1 (e511 _ _ hu1) (e511 _ _ (e5 _ _ hl1)) (e511 _ _ (e35 _ _ hk1')) (e511 _ _ (e35 _ _ ht1')) (by omega) (by omega)
    (iffF fun z => z (dear1.mpr (w_more (by omega) (by omega)))) (iffT fun z => dear1.mp z ((w_free (show ¬ r > r + 1 by omega) (by omega)).mpr ⟨bb, (show ¬ d < d by omega), fun y => absurd y.1 (show ¬ m > m by omega)⟩))
  have R2 : RowAt H11 (mk1 ls d r true m b) fo (.ref u2) := row n2 (e11 _ _ hu2) (e11 _ _ (e10 _ _ hl2)) (e811 _ _ hk2') (e811 _ _ ht2') (by omega) (by omega)
    (iffF fun z => z (dear1.mpr (w_bound (by omega) (by omega)))) (iffT fun z => dear1.mp z (w_not (by omega)))
  have e011 : Same H H11 := (e03.trans e35).trans e511
  walk_at "rd"
  refine r_disp fun k3 H12 nk3 e12 hk3 => ?_
  walk_at "rd"
  refine r_kTup fun t3 H13 nt3 e13 ht3 => ?_
  walk_at "rd"
  refine r_kDisp (kv1 t3) (e13 _ _ hk3) rfl kv1_len kv1_nd fun H14 b14 hk3' => ?_
  have e1114 : Same H11 H14 := Same.mut (e12.trans e13) b14 nk3
  have ht3' := b14 _ _ ht3 (ne_of ht3 (e13 _ _ hk3) (by intro z; cases z))
  walk_at "rd"
  refine r_kLst fun l3 H15 nl3 e15 hl3 => ?_
  walk_at "rd"
  refine r_kTup fun u3 H16 nu3 e16 hu3 => ?_
  have e1416 := e15.trans e16
  have e1116 := e1114.trans e1416
  have n3 : l3 ≠ fo := (ne_of_none (e1114 _ _ hfo) nl3).symm
  have R3 : RowAt H16 (mk1 ls d r true m b) fo (.ref u3) := row n3 hu3 (e16 _ _ hl3) (e1416 _ _ hk3') (e1416 _ _ ht3') (by omega) (by omega)
    (iffT fun z => dear1.mp z w_zero) (iffF fun z => z (dear1.mpr (w_more (by omega) (by omega))))
  walk_at "rd"
  refine r_append (e1116 _ _ hfo) (by simp) fun H17 b17 hfo17 => ?_
  have e017 : Same H H17 := Same.mut (e011.trans e1116) b17 nfo0
  have hN16 := e1116 _ _ hfo
  have R1' := (R1.same e1116).but hN16 b17
  have R2' := (R2.same e1116).but hN16 b17
  have R3' := R3.but hN16 b17
  walk_at "rd"
  refine r_disp fun k4 H18 nk4 e18 hk4 => ?_
  walk_at "rd"
  refine r_kTup fun t4 H19 nt4 e19 ht4 => ?_
  walk_at "rd"
  refine r_kDisp (kv1 t4) (e19 _ _ hk4) rfl kv1_len kv1_nd fun H20 b20 hk4' => ?_
  have e1720 : Same H17 H20 := Same.mut (e18.trans e19) b20 nk4
  have ht4' := b20 _ _ ht4 (ne_of ht4 (e19 _ _ hk4) (by intro z; cases z))
  walk_at "rd"
  refine r_kLst fun l4 H21 nl4 e21 hl4 => ?_
  walk_at "rd"
  refine r_kTup fun u4 H22 nu4 e22 hu4 => ?_
  have e2022 := e21.trans e22
  have e1722 := e1720.trans e2022
  have n4 : l4 ≠ fo := (ne_of_none (e1720 _ _ hfo17) nl4).symm
  have R4 : RowAt H22 (mk1 ls d r true m b) fo (.ref u4) := row n4 hu4 (e22 _ _ hl4) (e2022 _ _ hk4') (e2022 _ _ ht4') (by omega) (by omega)
    (iffT fun z => dear1.mp z w_zero) (iffF fun z => z (dear1.mpr (w_more (by omega) (by omega))))
  walk_at "rd"
  refine r_append (e1722 _ _ hfo17) (by simp) fun H23 b23 hfo23 => ?_
  have e023 : Same H H23 := Same.mut (e017.trans e1722) b23 nfo0
  have hN22 := e1722 _ _ hfo17
  have all4 : ∀ x ∈ ([.ref u1, .ref u2] ++ [.ref u3] ++ [.ref u4] : List V), RowAt H23 (mk1 ls d r true m b) fo x := by
    intro x hx
    simp only [List.cons_append, List.nil_append, List.mem_cons, List.not_mem_nil, or_false] at hx
    rcases hx with rfl | rfl | rfl | rfl
    · exact (R1'.same e1722).but hN22 b23
    · exact (R2'.same e1722).but hN22 b23
    · exact (R3'.same e1722).but hN22 b23
    · exact R4.but hN22 b23
  -- what is put in one by one
  have grow : ∀ {G : Hp} {xs : List V} {x : V}, G fo = some (.lst xs) → (∀ y ∈ xs, RowAt G (mk1 ls d r true m b) fo y) → RowAt G (mk1 ls d r true m b) fo x → ∀ {G' : Hp}, But fo G G' → ∀ y ∈ xs ++ [x], RowAt G' (mk1 ls d r true m b) fo y := by
    intro G xs x h1 h2 h3 G' hb y hy
    rcases List.mem_append.mp hy with hy | hy
    · exact (h2 y hy).but h1 hb
    · rw [List.mem_singleton.mp hy]
      exact h3.but h1 hb
  have okd : ∀ (d' m' : Int) (b' : Str), 0 ≤ d' → d' ≤ d → 0 ≤ m' → m' ≤ 2 → Bg b' → (mk1 ls d' r true m' b').Ok := fun d' m' b' h1 h2 h3 h4 h5 => ok1 hl h1 (fun n hn => by have h : d < n := ok.d1 n hn; omega) (by omega) (by omega) h3 h4 h5
  refine r_cut (fun σ' H' => ∃ xs, σ' = [some (.ref p), some (.int r), some (.ref fo), none] ∧ Same H H' ∧ H' fo = some (.lst xs) ∧ xs.length ≤ 5 ∧ ∀ y ∈ xs, RowAt H' (mk1 ls d r true m b) fo y) ?_ ?_
  · walk_at "rd"
    refine r_kProp (i1.keep e023).i ⟨p, _, rfl, hB.keep e023, ?_⟩
    walk_at "rd"
    refine w_dec (fun c => ?_) (fun c => ?_)
    · have c : d > 0 := c
      walk_at "rd"
      refine r_kProp (i1.keep e023).i ⟨p, _, rfl, hB.keep e023, ?_⟩
      walk_at "rd"
      refine r_kLst fun l5 H24 nl5 e24 hl5 => ?_
      walk_at "rd"
      refine r_kTup fun u5 H25 nu5 e25 hu5 => ?_
      have e2325 := e24.trans e25
      have n5 : l5 ≠ fo := (ne_of_none hfo23 nl5).symm
      have R5 : RowAt H25 (mk1 ls d r true m b) fo (.ref u5) := ⟨u5, l5, "due", .int (d - 1), false, true, mk1 ls (d - 1) r true m b, rfl, n5, ndl, hu5, e25 _ _ hl5, WP.due _, okd _ _ _ (by omega) (by omega) hm0 hm1 hbg, ⟨_, rfl⟩, rfl, rfl,
        iffF fun z => z (dear1.mpr fun y => (same.mp y).2.1 (by omega)), iffT fun z => dear1.mp z (same.mpr ⟨bb, by omega, fun y => absurd y.1 (by omega)⟩)⟩
      walk_at "rd"
      refine r_append (e2325 _ _ hfo23) (by simp) fun H26 b26 hfo26 => ?_
      exact ⟨_, rfl, Same.mut (e023.trans e2325) b26 nfo0, hfo26, by simp, grow (e2325 _ _ hfo23) (fun y hy => (all4 y hy).same e2325) R5 b26⟩
    · walk_at "rd"
      exact ⟨_, rfl, e023, hfo23, by simp, all4⟩
  rintro σ' H30 ⟨xs, rfl, e030, hfo30, hxl, hx30⟩
  refine r_cut (fun σ' H' => ∃ xs, σ' = [some (.ref p), some (.int r), some (.ref fo), none] ∧ Same H H' ∧ H' fo = some (.lst xs) ∧ xs.length ≤ 6 ∧ ∀ y ∈ xs, RowAt H' (mk1 ls d r true m b) fo y) ?_ ?_
  · walk_at "rd"
    refine r_kProp (i1.keep e030).i ⟨p, _, rfl, hB.keep e030, ?_⟩
    walk_at "rd"
    refine w_dec (fun c => ?_) (fun c => ?_)
    · have c : b = "day" := c
      walk_at "rd"
      refine r_kLst fun l5 H24 nl5 e24 hl5 => ?_
      walk_at "rd"
      refine r_kTup fun u5 H25 nu5 e25 hu5 => ?_
      have e2325 := e24.trans e25
      have n5 : l5 ≠ fo := (ne_of_none hfo30 nl5).symm
      have R5 : RowAt H25 (mk1 ls d r true m b) fo (.ref u5) := ⟨u5, l5, "begins", .str "statement", true, false, mk1 ls d r true m "statement", rfl, n5, nbl, hu5, e25 _ _ hl5, WP.beg _, okd _ _ _ hd0 (by omega) hm0 hm1 (.inr rfl), ⟨_, rfl⟩, rfl, rfl,
        iffT fun z => dear1.mp z (same.mpr ⟨fun y => absurd (y.1.symm.trans c) sdn, by omega, fun y => absurd y.1 (by omega)⟩), iffF fun z => z (dear1.mpr fun y => (same.mp y).1 ⟨rfl, c⟩)⟩
      walk_at "rd"
      refine r_append (e2325 _ _ hfo30) (by omega) fun H26 b26 hfo26 => ?_
      exact ⟨_, rfl, Same.mut (e030.trans e2325) b26 nfo0, hfo26, by rw [List.length_append]; show xs.length + 1 ≤ 6; omega, grow (e2325 _ _ hfo30) (fun y hy => (hx30 y hy).same e2325) R5 b26⟩
    · walk_at "rd"
      exact ⟨_, rfl, e030, hfo30, by omega, hx30⟩
  rintro σ' H40 ⟨xs, rfl, e040, hfo40, hxl, hx40⟩
  refine r_cut (fun σ' H' => ∃ xs y3, σ' = [some (.ref p), some (.int r), some (.ref fo), y3] ∧ Same H H' ∧ H' fo = some (.lst xs) ∧ ∀ y ∈ xs, RowAt H' (mk1 ls d r true m b) fo y) ?_ ?_
  · walk_at "rd"
    refine r_kProp (i1.keep e040).i ⟨p, _, rfl, hB.keep e040, ?_⟩
    walk_at "rd"
    refine w_dec (fun c => ?_) (fun c => ?_)
    · have c : m < 2 := c
      have fin : ∀ sm : Bool, (sm = true ↔ (b = "statement" ∧ d = 0)) → ∀ H24 l5, H40 l5 = none → Same H40 H24 → H24 l5 = some (.lst [.bl sm, .bl true]) → ∀ u5 H25, Same H24 H25 → H25 u5 = some (.tup [.str "memory", .int (m + 1), .ref l5]) → RowAt H25 (mk1 ls d r true m b) fo (.ref u5) := by
        intro sm hsm H24 l5 nl5 e24 hl5 u5 H25 e25 hu5
        refine ⟨u5, l5, "memory", .int (m + 1), sm, true, mk1 ls d r true (m + 1) b, rfl, (ne_of_none hfo40 nl5).symm, nml, hu5, e25 _ _ hl5, WP.mem _, okd _ _ _ hd0 (by omega) (by omega) (by omega) hbg, ⟨_, rfl⟩, rfl, rfl, ?_, iffT fun z => dear1.mp z (same.mpr ⟨bb, by omega, fun y => absurd y.1 (by omega)⟩)⟩
        rw [hsm]
        constructor
        · rintro ⟨y1, y2⟩ z
          refine dear1.mp z (same.mpr ⟨bb, by omega, fun y => ?_⟩)
          rcases y.2 with y3 | y3
          · exact sdn (y1.symm.trans y3)
          · omega
        · intro z
          have hw : whyF (mk1 ls d r true (m + 1) b) (mk1 ls d r true m b) r true r true = "" := Classical.not_not.mp fun y => z (dear1.mpr y)
          have h3 := (same.mp hw).2.2
          have hnd : ¬ (b = "day" ∨ d > 0) := fun y => h3 ⟨by omega, y⟩
          refine ⟨hbg.resolve_left fun y => hnd (.inl y), ?_⟩
          have : ¬ d > 0 := fun y => hnd (.inr y)
          omega
      walk_at "rd"
      refine r_kProp (i1.keep e040).i ⟨p, _, rfl, hB.keep e040, ?_⟩
      walk_at "rd"
      refine w_dec (fun c2 => ?_) (fun c2 => ?_)
      · have c2 : b = "statement" := c2
        walk_at "rd"
        refine r_kProp (i1.keep e040).i ⟨p, _, rfl, hB.keep e040, ?_⟩
        walk_at "rd"
        refine r_kProp (i1.keep e040).i ⟨p, _, rfl, hB.keep e040, ?_⟩
        walk_at "rd"
        refine r_kLst fun l5 H24 nl5 e24 hl5 => ?_
        walk_at "rd"
        refine r_kTup fun u5 H25 nu5 e25 hu5 => ?_
        have e2325 := e24.trans e25
        have R5 := fin (decide (d = 0)) (by rw [decide_eq_true_iff]; exact ⟨fun y => ⟨c2, y⟩, fun y => y.2⟩) H24 l5 nl5 e24 hl5 u5 H25 e25 hu5
        walk_at "rd"
        refine r_append (e2325 _ _ hfo40) (by omega) fun H26 b26 hfo26 => ?_
        exact ⟨_, _, rfl, Same.mut (e040.trans e2325) b26 nfo0, hfo26, grow (e2325 _ _ hfo40) (fun y hy => (hx40 y hy).same e2325) R5 b26⟩
      · have c2 : ¬ b = "statement" := c2
        walk_at "rd"
        refine r_kProp (i1.keep e040).i ⟨p, _, rfl, hB.keep e040, ?_⟩
        walk_at "rd"
        refine r_kLst fun l5 H24 nl5 e24 hl5 => ?_
        walk_at "rd"
        refine r_kTup fun u5 H25 nu5 e25 hu5 => ?_
        have e2325 := e24.trans e25
        have R5 := fin false (iffF fun y => c2 y.1) H24 l5 nl5 e24 hl5 u5 H25 e25 hu5
        walk_at "rd"
        refine r_append (e2325 _ _ hfo40) (by omega) fun H26 b26 hfo26 => ?_
        exact ⟨_, _, rfl, Same.mut (e040.trans e2325) b26 nfo0, hfo26, grow (e2325 _ _ hfo40) (fun y hy => (hx40 y hy).same e2325) R5 b26⟩
    · walk_at "rd"
      exact ⟨_, _, rfl, e040, hfo40, hx40⟩
  rintro σ' H50 ⟨xs, y3, rfl, e050, hfo50, hx50⟩
  walk_at "rd"
  exact k fo H50 xs nfo0 e050 hfo50 fun x hx => (hx50 x hx).ok
end
end Wp
set_option Elab.async false
set_option linter.all false
set_option maxRecDepth 100000
set_option maxHeartbeats 4000000
namespace Wp
open PySem PySem.Spec PyProof.Rows L2
local macro_rules | `(tactic| walk_at "val") => `(tactic| assumption)
local macro_rules | `(tactic| walk_at "rd1") => `(tactic| first
  | with_reducible refine r_seq ?_ | with_reducible refine r_next ?_ | with_reducible refine r_if ?_ | with_reducible refine r_asg ?_ | with_reducible refine r_gname ?_
  | with_reducible refine r_ret ?_ | with_reducible refine r_retN ?_ | with_reducible refine r_drop ?_ | with_reducible refine r_par ?_ | with_reducible refine r_kPar ?_
  | ((with_reducible refine' r_var ?hv ?_); (case hv => exact rfl)) | with_reducible refine r_c ?_ | with_reducible refine r_nil ?_ | with_reducible refine r_cons ?_
  | with_reducible refine r_fn ?_ | with_reducible refine r_cb ?_ | with_reducible refine r_op ?_ | with_reducible refine r_un ?_ | with_reducible refine r_I0 ?_
  | with_reducible refine r_pow5 ?_ | with_reducible refine r_pow6 ?_ | with_reducible refine r_pow7 ?_ | with_reducible refine r_pow9 ?_ | with_reducible refine r_pow18 ?_ | with_reducible refine r_pow20 ?_ | with_reducible refine r_pow30 ?_
  | with_reducible refine r_isN_non ?_ | with_reducible refine r_isN_ref ?_ | with_reducible refine r_isN_int ?_ | with_reducible refine r_isN_str ?_ | with_reducible refine r_isN_bl ?_ | with_reducible refine r_notN_non ?_ | with_reducible refine r_notN_ref ?_ | with_reducible refine r_notN_int ?_ | with_reducible refine r_notN_str ?_ | with_reducible refine r_notN_bl ?_
  | ((with_reducible refine r_I ?hc ?_); (case hc => walk_at "side")) | with_reducible refine r_U ?_
  | with_reducible refine r_eqI ?_ | with_reducible refine r_neI ?_ | with_reducible refine r_eqS ?_ | with_reducible refine r_neS ?_ | with_reducible refine r_eqB ?_ | with_reducible refine r_neB ?_
  | with_reducible refine r_chain ?_ | with_reducible refine r_test ?_ | with_reducible refine r_tB ?_ | with_reducible refine r_kTest ?_ | with_reducible refine r_not ?_
  | with_reducible refine r_and ?_ | with_reducible refine r_or ?_ | with_reducible refine r_tif ?_ | with_reducible refine r_andV ?_ | with_reducible refine r_orV ?_ | with_reducible refine r_notV ?_
  | with_reducible refine r_kAndV ?_ | with_reducible refine r_kOrV ?_ | with_reducible refine r_kNotV ?_
  | with_reducible refine w_T ?_ | with_reducible refine w_F ?_ | with_reducible refine w_NT ?_ | with_reducible refine w_NF ?_
  | with_reducible refine r_tup ?_ | with_reducible refine r_lst ?_ | with_reducible refine r_fld ?_ | with_reducible refine r_prop ?_ | ((with_reducible refine' r_aug ?h1 ?_); (case h1 => exact rfl)) | with_reducible refine r_ipI ?_ | with_reducible refine r_dget ?_ | with_reducible refine r_dput ?_ | with_reducible refine r_bm ?_
  | ((with_reducible refine' r_kDGetS ?h1 ?h2 ?_); (case h1 => assumption); (case h2 => walk_at "val"))
  | ((with_reducible refine' r_kBML ?h1 ?_); (case h1 => assumption))
  | with_reducible refine r_forL ?_ | with_reducible refine r_forR1 ?_ | with_reducible refine r_forR2 ?_ | with_reducible refine r_forT ?_ | with_reducible refine r_lcL ?_ | with_reducible refine r_lcR1 ?_
  | ((with_reducible refine r_kLcG ?hw ?_); (case hw => exact rfl)) | with_reducible refine r_kLcT ?_ | with_reducible refine r_yes ?_
  | with_reducible refine r_pnil ?_ | with_reducible refine r_pcons ?_
  | with_reducible refine r_fnK ?_ | ((with_reducible refine r_kFnK ?hl ?_); (case hl => exact rfl))
  | with_reducible refine r_isi_ii ?_ | with_reducible refine r_isi_ib ?_ | with_reducible refine r_isi_bi ?_ | with_reducible refine r_isi_bb ?_ | with_reducible refine r_isi_ss ?_ | with_reducible refine r_isi_is ?_ | with_reducible refine r_isi_it ?_
  | ((with_reducible refine' r_isi_tt ?h1 ?_); (case h1 => assumption))
  | with_reducible refine r_sfld ?_ | with_reducible refine r_gnil ?_ | with_reducible refine r_gcons ?_
  | ((with_reducible refine' r_gtup ?h1 ?h2 ?_); (case h1 => exact SqT.of (by assumption)); (case h2 => exact rfl))
  | with_reducible refine r_sl ?_ | with_reducible refine r_noPart ?_ | with_reducible refine r_part ?_ | with_reducible refine r_kPart ?_ | with_reducible refine r_m1 ?_ | with_reducible refine r_kM1 ?_ | with_reducible refine r_forS ?_ | with_reducible refine r_lcS ?_ | with_reducible refine r_lcTu ?_ | with_reducible refine r_lcK ?_ | with_reducible refine r_dcL ?_ | with_reducible refine r_lenD ?_
  | ((with_reducible refine r_kDcG ?hw ?_); (case hw => exact rfl)) | with_reducible refine r_kDcT ?_
  | with_reducible refine r_meth ?_ | with_reducible refine r_frz ?_ | with_reducible refine r_par3 ?_ | with_reducible refine r_kPar3 ?_ | with_reducible refine r_dz ?_ | with_reducible refine r_revL ?_ | with_reducible refine r_star ?_ | with_reducible refine r_int1 ?_ | with_reducible refine r_int1b ?_ | with_reducible refine r_min2 ?_ | with_reducible refine r_max2 ?_)
local macro_rules | `(tactic| walk_at "rd") => `(tactic| repeat walk_at "rd1")
local macro_rules | `(tactic| walk_at "side") => `(tactic| first | assumption | exact Or.inr ⟨by decide, by decide⟩ | exact Or.inl ⟨by decide, by decide⟩ | (constructor <;> omega) | omega | decide | (refine Or.inl ⟨?_, ?_⟩ <;> omega) | (refine Or.inr ⟨?_, ?_⟩ <;> omega) | (refine ⟨?_, ?_, ?_⟩ <;> first | decide | omega))
local macro_rules | `(tactic| walk_at "ints") => `(tactic| repeat (first | exact trivial | refine ⟨⟨_, rfl, by first | omega | decide, by first | omega | decide⟩, ?_⟩))
theorem mode_mem {i : Nat} {x : V} (h : [V.str "day", V.str "statement"][i]? = some x) : ∃ b, x = .str b ∧ Bg b := by
  have h := List.mem_of_getElem? h
  simp only [List.mem_cons, List.not_mem_nil, or_false] at h
  rcases h with h | h
  · exact ⟨_, h, .inl rfl⟩
  · exact ⟨_, h, .inr rfl⟩
theorem shp_bb (a b : Bool) : SeqAt.shaped (.list [.bool a, .bool b]) = true := by cases a <;> cases b <;> decide +kernel
section
variable {P : Program} {w : World} {K : PySem.W.Frag} {mg : Str → Option Value} {base : Heap}
theorem ok_law {f C : Addr} {fd : FuncData} (T : Tx K mg) (F : FnP K "law" s_law f fd)
    (d__law_begun : Dn P w K mg base CX0 1 "_law_begun" ["_law_script"] (sp_begun K)) (d__law_take : Dn P w K mg base CX0 2 "_law_take" ["_law_state", "_law_size"] sp_take)
    (d__law_pick : Dn P w K mg base CX0 3 "_law_pick" ["_law_state", "_law_some"] sp_pick) (mk_Book_5 : Dc P w K mg base CX0 5 "Book" (sp_Book5 C)) (mt_Book_with_part : Dm P w K mg base CX0 7 C "with_part" (sp_with_part C))
    (d__law_both : Dn P w K mg base CX0 8 "_law_both" ["_law_made", "_law_twin"] (sp_both C)) (d__law_known_rows : Dn P w K mg base CX0 3 "_law_known_rows" ["_law_ground", "_law_rated"] (sp_known_rows C))
    (d__law_bare_right : Dn P w K mg base CX0 9 "_law_bare_right" ["_law_ground"] (sp_right1 C)) (d__law_fixed_right : Dn P w K mg base CX0 9 "_law_fixed_right" ["_law_ground", "_law_rated"] (sp_right2 C))
    (d_never_dearer : Dn P w K mg base CX0 7 "never_dearer" ["one", "other"] (sp_never C)) (d_alike : Dn P w K mg base CX0 8 "alike" ["one", "other"] (sp_alike C)) :
    FnG P w K mg base CX0 10 f fd ["_law_script"] (spLaw K) := by
  have sc : FnScope ["_law_script", "_law_state", "_law_turn", "_law_sizes", "_law_rated", "_law_late", "_law_mode", "_law_ground", "_law_part", "_law_other", "_law_due", "_law_two", "_law_k"] ["_law_script"] (defScope s_law) := ⟨rfl, rfl, rfl, by decide +kernel, rfl, by decide +kernel, by decide +kernel⟩
  refine F.okG sc (by rintro vs H Q E ⟨_, _, rfl, _⟩; rfl) (fun cdv A outer s H vs Q E hr hG h => ⟨_, PSs.nox ((pss_cons (ps_set (i := 1) sc.nd rfl (by first | exact Or.inl rfl | exact Or.inr rfl) (pe_fn d__law_begun (hr.mono (by decide)) pass0 (pa_cons (pv 0) pa_nil)))
      (pss_cons (ps_for PassesOwn.never rfl (pi_range1 (by rfl) T.b_range (pa_cons (pe_op op_add pe_int (pe_callB (c_min2 rfl) (by rfl) T.b_min (by decide +kernel) (pa_cons (pe_callB (c_lenK (K := K) rfl) (by rfl) T.b_len (by decide +kernel) (pa_cons (pv 0) pa_nil)) (pa_cons pe_int pa_nil)))) pa_nil)) (pg_name (i := 2) sc.nd rfl (by first | exact Or.inl rfl | exact Or.inr rfl)) (pss_cons (ps_setLc (i := 3) (own := [("_law_k", 12)]) (by rfl) sc.nd rfl rfl (sw_true rfl rfl rfl (by decide +kernel)) (pi_range1 (by rfl) T.b_range (pa_cons (pe_op op_add pe_int (pe_fn d__law_take (hr.mono (by decide)) pass0 (pa_cons (pv 1) (pa_cons pe_int pa_nil)))) pa_nil)) (blkOk_by (own := [("_law_k", 12)]) (N := ["_law_script", "_law_state", "_law_turn", "_law_sizes", "_law_rated", "_law_late", "_law_mode", "_law_ground", "_law_part", "_law_other", "_law_due", "_law_two", "_law_k"]) (sc := defScope s_law) (by decide +kernel)) (fun _ _ _ _ _ => (pg_name (i := 12) sc.nd rfl (by first | exact Or.inl rfl | exact Or.inr rfl))) (fun _ _ _ _ _ => pts_nil) (fun _ _ _ _ _ => (pe_op op_add pe_int (pe_fn d__law_take (hr.mono (by decide)) pass0 (pa_cons (pv 1) (pa_cons pe_int pa_nil))))))
      (pss_cons (ps_par (i := 4) (j := 5) (by rfl) sc.nd rfl rfl (by decide) rfl rfl (pa_cons (pe_op op_add pe_int (pe_fn d__law_take (hr.mono (by decide)) pass0 (pa_cons (pv 1) (pa_cons pe_int pa_nil)))) (pa_cons (pe_fn d__law_pick (hr.mono (by decide)) pass0 (pa_cons (pv 1) (pa_cons (pe_lst (pa_cons pe_int (pa_cons pe_int (pa_cons (pe_fn d__law_take (hr.mono (by decide)) pass0 (pa_cons (pv 1) (pa_cons (pe_callB (c_minK (K := K) rfl rfl) (by rfl) T.b_min (by decide +kernel) (pa_cons (pv 3) pa_nil)) pa_nil))) pa_nil)))) pa_nil))) pa_nil)) (by rfl))
      (pss_cons (ps_set (i := 6) sc.nd rfl (by first | exact Or.inl rfl | exact Or.inr rfl) (pe_fn d__law_pick (hr.mono (by decide)) pass0 (pa_cons (pv 1) (pa_cons (pe_lst (pa_cons pe_str (pa_cons pe_str pa_nil))) pa_nil))))
      (pss_cons (ps_set (i := 7) sc.nd rfl (by first | exact Or.inl rfl | exact Or.inr rfl) (pe_mk mk_Book_5 (hr.mono (by decide)) pass0 (pa_cons (pv 3) (pa_cons (pv 5) (pa_cons (pe_disp (pps_cons pe_str (pe_tup (pa_cons (pv 4) (pa_cons pe_bl pa_nil))) pps_nil) (by rfl) (by rfl) (fun z => by cases z) (by decide)) (pa_cons (pe_fn d__law_take (hr.mono (by decide)) pass0 (pa_cons (pv 1) (pa_cons pe_int pa_nil))) (pa_cons (pv 6) pa_nil)))))))
      (pss_cons (ps_for PassesOwn.never rfl (pi_listK (K := K) rfl (pe_fn d__law_known_rows (hr.mono (by decide)) pass0 (pa_cons (pv 7) (pa_cons (pv 4) pa_nil)))) (pg_tupK (K := K) rfl rfl (pgs_cons (pg_name (i := 8) sc.nd rfl (by first | exact Or.inl rfl | exact Or.inr rfl)) (pgs_cons (pg_name (i := 9) sc.nd rfl (by first | exact Or.inl rfl | exact Or.inr rfl)) (pgs_cons (pg_name (i := 10) sc.nd rfl (by first | exact Or.inl rfl | exact Or.inr rfl)) pgs_nil)))) (pss_one (ps_if (pt_cmpR (neDK (K := K) rfl hr.units) (pe_fn d__law_both (hr.mono (by decide)) pass0 (pa_cons (pe_mt mt_Book_with_part (hr.mono (by decide)) pass0 (pv 7) (pa_cons (pv 8) (pa_cons (pv 9) pa_nil))) (pa_cons (pv 7) pa_nil))) (pv 10) (nomark _)) (pss_one (ps_ret pe_bl)) pss_nil)))
      (pss_cons (ps_if (PW.pt (pw_or (pt_not (pt_val (pe_fn d__law_bare_right (hr.mono (by decide)) pass0 (pa_cons (pv 7) pa_nil)))) (pw_or1 (pt_not (pt_val (pe_fn d__law_fixed_right (hr.mono (by decide)) pass0 (pa_cons (pv 7) (pa_cons (pv 4) pa_nil)))))))) (pss_one (ps_ret pe_bl)) pss_nil)
      (pss_cons (ps_set (i := 11) sc.nd rfl (by first | exact Or.inl rfl | exact Or.inr rfl) (pe_mt mt_Book_with_part (hr.mono (by decide)) pass0 (pe_mt mt_Book_with_part (hr.mono (by decide)) pass0 (pe_mt mt_Book_with_part (hr.mono (by decide)) pass0 (pv 7) (pa_cons pe_str (pa_cons pe_int pa_nil))) (pa_cons pe_str (pa_cons pe_str pa_nil))) (pa_cons pe_str (pa_cons pe_int pa_nil))))
      (pss_one (ps_if (PW.pt (pw_or (pt_not (pt_val (pe_fn d_never_dearer (hr.mono (by decide)) pass0 (pa_cons (pv 11) (pa_cons (pe_mt mt_Book_with_part (hr.mono (by decide)) pass0 (pv 11) (pa_cons pe_str (pa_cons pe_int pa_nil))) pa_nil))))) (pw_or1 (pt_not (pt_val (pe_fn d_alike (hr.mono (by decide)) pass0 (pa_cons (pv 11) (pa_cons (pe_mt mt_Book_with_part (hr.mono (by decide)) pass0 (pv 11) (pa_cons pe_str (pa_cons pe_int pa_nil))) pa_nil)))))))) (pss_one (ps_ret pe_bl)) pss_nil))))))))))
      (pss_one (ps_ret pe_bl))))), ?_⟩)
  obtain ⟨a, cs, rfl, hS, hlen, k⟩ := h
  walk_at "rd"
  refine ⟨a, cs, rfl, hS, hlen, fun st l c H1 nst nl nc e1 D1 => ?_⟩
  walk_at "rd"
  have hS2 : SqL K H1 a (cs.map V.int) := SqL.kp hS e1 nst nl (Kp.refl)
  refine r_lenL hS2 ?_
  walk_at "rd"
  refine r_kForR1 (fun i σ' H' => ∃ (x2 x3 x4 x5 x6 x7 x8 x9 x10 x11 x12 : Option V), σ' = [some (.ref a), some (.ref st), x2, x3, x4, x5, x6, x7, x8, x9, x10, x11, x12] ∧ DS st l c cs (100 * (i : Int)) H') (by rw [List.length_map]; omega) ⟨_, _, _, _, _, _, _, _, _, _, _, rfl, D1.mono (by omega)⟩ ?_ ?_
  · rintro i σ' H3 hi ⟨x2, x3, x4, x5, x6, x7, x8, x9, x10, x11, x12, rfl, D3⟩
    have hi2 : (i : Int) ≤ 100 := by
      rw [List.length_map] at hi
      omega
    walk_at "rd"
    refine u_take D3 (by omega) (by decide) (by decide) fun a1 H4 a1l a1h D4 k4 => ?_
    walk_at "rd"
    refine r_kLcR1 (fun Da j H' => ∃ zs : List Int, zs.length = j ∧ H' Da = some (.lst (zs.map V.int)) ∧ (∀ z ∈ zs, 2 ≤ z ∧ z ≤ 31) ∧ DS st l c cs (100 * (i : Int) + 1 + (j : Int)) H') (by omega) (fun Da H' _ e h => ⟨[], rfl, h, (by intro z hz; cases hz), (D4.keep e).mono (by omega)⟩) ?_ ?_
    · rintro Da j H' hD hj ⟨zs, hzl, hDa, hz, D'⟩
      walk_at "rd"
      refine u_take D' (by omega) (by decide) (by decide) fun b H10 bl bh D10 k10 => ?_
      walk_at "rd"
      refine r_kLcE (k10 _ _ hDa (D4.nst hD) (D4.nl hD)) (by rw [List.length_map]; omega) fun H11 b11 h11 => ⟨zs ++ [2 + b], by simp [hzl], ?_, ?_, (D10.but D4 hD b11).mono (by omega)⟩
      · rw [List.map_append]
        exact h11
      · intro z hz'
        rcases List.mem_append.mp hz' with hz' | hz'
        · exact hz z hz'
        · have := List.mem_singleton.mp hz'
          omega
    rintro Da H5 hD ⟨zs, hzl, hDa, hz, D5⟩
    have hl : Ls zs := ⟨by omega, by omega, hz⟩
    have nDs : Da ≠ st := D4.nst hD
    have nDl : Da ≠ l := D4.nl hD
    have hB5 : (1 + a1).toNat ≤ 3 := by omega
    walk_at "rd"
    refine u_take D5 (by omega) (by decide) (by decide) fun a2 H6 a2l a2h D6 k6 => ?_
    have hDa6 := k6 _ _ hDa nDs nDl
    walk_at "rd"
    refine ⟨Da, zs, rfl, SqL.of hDa6, by omega, fun mn hmn hmin => ?_⟩
    have hmn2 := hz mn hmn
    walk_at "rd"
    refine u_take D6 (by omega) (by omega) (by omega) fun a3 H7 a3l a3h D7 k7 => ?_
    have hDa7 := k7 _ _ hDa6 nDs nDl
    walk_at "rd"
    refine r_kLst fun q1 H8 nq1 e8 hq1 => ?_
    walk_at "rd"
    refine u_pick D7 (by omega) nq1 e8 hq1 (by simp) (by simp) fun i9 x H9 hx D9 k9 => ?_
    obtain ⟨late, rfl, late0, late1⟩ := IntsIn.get (lo := 0) (hi := mn - 1) (by walk_at "ints") hx
    have hDa9 := k9 _ _ hDa7 nDs nDl
    walk_at "rd"
    refine r_kLst fun q2 H10 nq2 e10 hq2 => ?_
    walk_at "rd"
    refine u_pick D9 (by omega) nq2 e10 hq2 (by simp) (by simp) fun i10 x' H11 hx' D11 k11 => ?_
    obtain ⟨mode, rfl, hmode⟩ := mode_mem hx'
    have hDa11 := k11 _ _ hDa9 nDs nDl
    walk_at "rd"
    refine r_disp fun kd H12 nk e12 hkd => ?_
    walk_at "rd"
    refine r_kTup fun t1 H13 nt1 e13 ht1 => ?_
    walk_at "rd"
    refine r_kDisp (kv1 t1) (e13 _ _ hkd) rfl kv1_len kv1_nd fun H14 b14 hkd' => ?_
    have e1114 : Same H11 H14 := Same.mut (e12.trans e13) b14 nk
    have ht1' := b14 _ _ ht1 (ne_of ht1 (e13 _ _ hkd) (by intro z; cases z))
    have D14 := D11.keep e1114
    walk_at "rd"
    refine u_take D14 (by omega) (by decide) (by decide) fun a4 H15 a4l a4h D15 k15 => ?_
    have hDa15 := k15 _ _ (e1114 _ _ hDa11) nDs nDl
    have hkd15 := k15 _ _ hkd' (D11.nst nk) (D11.nl nk)
    have ht15 : H15 t1 = some (.tup [.int (1 + a2), .bl true]) := Kp.tup k15 D14 ht1'
    generalize hr : 1 + a2 = r at ht15 ⊢
    have okg := ok1 (f := true) (due := late) (r := r) (mem := a4) hl late0 (fun n hn => by have := hmin n hn; omega) (by omega) (by omega) a4l (by omega) hmode
    walk_at "rd"
    refine ⟨Da, kd, mk1 zs late r true a4 mode, kv1 t1, rfl, okg, rfl, .inl hDa15, hkd15, kat1 ht15, fun g H16 ks ng e16 pm _ hG => ?_⟩
    obtain rfl : ks = [(("a" : Str), r, true)] := List.perm_singleton.mp pm
    have hG : BookAt C H16 g (mk1 zs late r true a4 mode) := hG
    have D16 := D15.keep e16
    walk_at "rd"
    refine ⟨g, zs, late, r, a4, mode, rfl, hG, okg, by omega, by omega, fun rows H17 xs nrw e17 hrw hrows => ?_⟩
    refine r_kForL (xs := xs) (fun j σ' H' => Same H17 H' ∧ ∃ y8 y9 y10, σ' = [some (.ref a), some (.ref st), some (.int (i : Int)), some (.ref Da), some (.int r), some (.int late), some (.str mode), some (.ref g), y8, y9, y10, x11, x12]) (SqL.of hrw) ⟨Same.refl _, _, _, _, rfl⟩ (fun j σ' H' h => SqL.of (h.1 _ _ hrw)) ?_ ?_
    · rintro j v σ' H18 hv ⟨e18, y8, y9, y10, rfl⟩
      obtain ⟨t, lb, n, pv, b1, b2, B', rfl, ht, hlb, hW, okB', hs1, hls, hnm, hb1, hb2⟩ := (hrows v (List.mem_of_getElem? hv)).keep e18
      have hG18 := hG.keep (e17.trans e18)
      obtain ⟨_, _, _, _, _, j1⟩ := id hG18
      walk_at "rd"
      refine r_kMeth j1.i rfl ?_
      walk_at "rd"
      refine u_with hG18 rfl hW okB' hs1 fun g2 H19 ng2 e19 hG2 => ?_
      walk_at "rd"
      have pr : Pair C H19 g2 g B' (mk1 zs late r true a4 mode) := ⟨hG2, hG18.keep e19, okB', okg, hW.laid, rfl, hls, hnm⟩
      refine ⟨g2, g, _, _, rfl, pr, fun c1 c2 t2 H20 nt2 e20 h1 h2 ht2 => ?_⟩
      have ec1 : c1 = b1 := by rw [Bool.eq_iff_iff, h1, hb1]
      have ec2 : c2 = b2 := by rw [Bool.eq_iff_iff, h2, hb2]
      subst ec1
      subst ec2
      walk_at "rd"
      refine r_neD_eq (d := .list [.bool c1, .bool c2]) (.lst (SqL.of ht2) (.cons (.bl _) (.cons (.bl _) .nil))) (.lst (SqL.of ((e19.trans e20) _ _ hlb)) (.cons (.bl _) (.cons (.bl _) .nil))) (shp_bb _ _) ?_
      walk_at "rd"
      exact ⟨(e18.trans e19).trans e20, _, _, _, rfl⟩
    · rintro σ' H18 ⟨e18, y8, y9, y10, rfl⟩
      have e1618 := e17.trans e18
      have hG18 := hG.keep e1618
      walk_at "rd"
      refine ⟨g, zs, late, r, a4, mode, rfl, hG18, okg, fun H19 e19 => ?_⟩
      walk_at "rd"
      refine ⟨g, zs, late, r, a4, mode, rfl, hG18.keep e19, okg, by omega, by omega, fun H20 e20 => ?_⟩
      have hG20 := (hG18.keep e19).keep e20
      have z0 : ∀ n ∈ zs, (0 : Int) < n := fun n hn => by
        have := hz n hn
        omega
      have okx : ∀ (d m : Int) (b : Str), 0 ≤ d → d ≤ late → 0 ≤ m → m ≤ 2 → Bg b → (mk1 zs d r true m b).Ok := fun d m b h1 h2 h3 h4 h5 => ok1 hl h1 (fun n hn => by have := hmin n hn; omega) (by omega) (by omega) h3 h4 h5
      obtain ⟨_, _, _, _, _, j1⟩ := id hG20
      walk_at "rd"
      refine r_kMeth j1.i rfl ?_
      walk_at "rd"
      refine u_with (B' := mk1 zs 0 r true a4 mode) hG20 rfl (WP.due 0) (okx _ _ _ (Int.le_refl 0) late0 a4l (by omega) hmode) ⟨_, rfl⟩ fun g1 H21 ng1 e21 hG1 => ?_
      walk_at "rd"
      obtain ⟨_, _, _, _, _, j2⟩ := id hG1
      refine r_kMeth j2.i rfl ?_
      walk_at "rd"
      refine u_with (B' := mk1 zs 0 r true a4 "statement") hG1 rfl (WP.beg _) (okx _ _ _ (Int.le_refl 0) late0 a4l (by omega) (.inr rfl)) ⟨_, rfl⟩ fun g2 H22 ng2 e22 hG2 => ?_
      walk_at "rd"
      obtain ⟨_, _, _, _, _, j3⟩ := id hG2
      refine r_kMeth j3.i rfl ?_
      walk_at "rd"
      have ok2 := okx 0 2 "statement" (Int.le_refl 0) late0 (by decide) (by decide) (.inr rfl)
      refine u_with (B' := mk1 zs 0 r true 2 "statement") hG2 rfl (WP.mem _) ok2 ⟨_, rfl⟩ fun g3 H23 ng3 e23 hG3 => ?_
      walk_at "rd"
      obtain ⟨_, _, _, _, _, j4⟩ := id hG3
      refine r_kMeth j4.i rfl ?_
      walk_at "rd"
      have ok3 := okx 0 0 "statement" (Int.le_refl 0) late0 (by decide) (by decide) (.inr rfl)
      refine u_with (B' := mk1 zs 0 r true 0 "statement") hG3 rfl (WP.mem _) ok3 ⟨_, rfl⟩ fun g4 H24 ng4 e24 hG4 => ?_
      walk_at "rd"
      have same : ∀ {m m' : Int}, ¬ Dearer (mk1 zs 0 r true m "statement") (mk1 zs 0 r true m' "statement") := fun {m m'} z =>
        dear1.mp z ((w_free (show ¬ r > r by omega) (by omega)).mpr ⟨fun y => sdn y.2, (show ¬ (0 : Int) < 0 by omega), fun y => y.2.elim sdn (show ¬ (0 : Int) > 0 by omega)⟩)
      refine ⟨g3, g4, _, _, rfl, pair1 (hG3.keep e24) hG4 ok2 ok3, fun b1 H25 e25 hb1 => ?_⟩
      obtain rfl : b1 = true := hb1.mpr same
      walk_at "rd"
      have hG3' := (hG3.keep e24).keep e25
      obtain ⟨_, _, _, _, _, j5⟩ := id hG3'
      refine r_kMeth j5.i rfl ?_
      walk_at "rd"
      have ok4 := okx 0 1 "statement" (Int.le_refl 0) late0 (by decide) (by decide) (.inr rfl)
      refine u_with (B' := mk1 zs 0 r true 1 "statement") hG3' rfl (WP.mem _) ok4 ⟨_, rfl⟩ fun g5 H26 ng5 e26 hG5 => ?_
      walk_at "rd"
      refine ⟨g3, g5, _, _, rfl, pair1 (hG3'.keep e26) hG5 ok2 ok4, fun b2 H27 e27 hb2 => ?_⟩
      obtain rfl : b2 = true := hb2.mpr ⟨same, same⟩
      walk_at "rd"
      have ee : Same H16 H27 := ((((((((((e1618.trans e19).trans e20).trans e21).trans e22).trans e23).trans e24).trans e25).trans e26).trans e27))
      exact ⟨_, _, _, _, _, _, _, _, _, _, _, rfl, (D16.keep ee).mono (by omega)⟩
  · rintro σ' H3 ⟨x2, x3, x4, x5, x6, x7, x8, x9, x10, x11, x12, rfl, D3⟩
    walk_at "rd"
    exact k H3
end
end Wp
set_option Elab.async false
set_option linter.all false
set_option maxRecDepth 100000
set_option maxHeartbeats 0
/-! A look at classes: what isinstance needs. -/
namespace Wp
open PySem PySem.Spec PyProof.Rows L2
def insB (K : PySem.W.Frag) (C : Addr) : Bool := decide (PySem.W.findIn K (.ref C) "__class__" = some (some (.builtin "object.__class__"))) && (decide (PySem.W.specialIn K (.builtin "object.__class__") "__get__" = some (some (.builtin "getset_descriptor.__get__")))
  && (decide (PySem.W.takesIn K (.builtin "object.__class__") = some true) && (decide (PySem.W.mroIn K C (.type "object") = some true) && decide (PySem.W.kitOne K (.ref C) (.ref C) = some true))))
theorem insB_ok {K : PySem.W.Frag} {C : Addr} (cl : Cls K C) (h : insB K C = true) : C8.InsC K C := by
  obtain ⟨h1, h⟩ := He.ba h
  obtain ⟨h2, h⟩ := He.ba h
  obtain ⟨h3, h⟩ := He.ba h
  obtain ⟨h4, h5⟩ := He.ba h
  exact ⟨cl, of_decide_eq_true h1, of_decide_eq_true h2, of_decide_eq_true h3, of_decide_eq_true h4, of_decide_eq_true h5⟩
end Wp
set_option Elab.async false
set_option linter.all false
set_option maxRecDepth 100000
set_option maxHeartbeats 0
namespace Wp
open PySem PySem.Spec PyProof.Rows L2
def D__law_begun : He.DefD := ⟨("_law_begun", none), "_law_begun", "_law_begun", defArgs s__law_begun, defBody s__law_begun, defScope s__law_begun, [], []⟩
def D__law_mixed : He.DefD := ⟨("_law_mixed", none), "_law_mixed", "_law_mixed", defArgs s__law_mixed, defBody s__law_mixed, defScope s__law_mixed, [], []⟩
def D__law_take : He.DefD := ⟨("_law_take", none), "_law_take", "_law_take", defArgs s__law_take, defBody s__law_take, defScope s__law_take, [], []⟩
def D__law_pick : He.DefD := ⟨("_law_pick", none), "_law_pick", "_law_pick", defArgs s__law_pick, defBody s__law_pick, defScope s__law_pick, [], []⟩
def D_is_number : He.DefD := ⟨("is_number", none), "is_number", "is_number", defArgs s_is_number, defBody s_is_number, defScope s_is_number, [], []⟩
def D_is_number_in : He.DefD := ⟨("is_number_in", none), "is_number_in", "is_number_in", defArgs s_is_number_in, defBody s_is_number_in, defScope s_is_number_in, [], []⟩
def D_is_list : He.DefD := ⟨("is_list", none), "is_list", "is_list", defArgs s_is_list, defBody s_is_list, defScope s_is_list, [], []⟩
def D_is_name : He.DefD := ⟨("is_name", none), "is_name", "is_name", defArgs s_is_name, defBody s_is_name, defScope s_is_name, [], []⟩
def D_are_lengths : He.DefD := ⟨("are_lengths", none), "are_lengths", "are_lengths", defArgs s_are_lengths, defBody s_are_lengths, defScope s_are_lengths, [], []⟩
def D_is_kind : He.DefD := ⟨("is_kind", none), "is_kind", "is_kind", defArgs s_is_kind, defBody s_is_kind, defScope s_is_kind, [], []⟩
def D_are_kinds : He.DefD := ⟨("are_kinds", none), "are_kinds", "are_kinds", defArgs s_are_kinds, defBody s_are_kinds, defScope s_are_kinds, [], []⟩
def D_Book___init__ : He.DefD := ⟨("Book", some "__init__"), "__init__", "Book.__init__", defArgs s_Book___init__, defBody s_Book___init__, defScope s_Book___init__, [.int 0, .str "day", .non], []⟩
def D_Book_parts_told : He.DefD := ⟨("Book", some "parts_told"), "parts_told", "Book.parts_told", defArgs s_Book_parts_told, defBody s_Book_parts_told, defScope s_Book_parts_told, [], []⟩
def D_Book_with_part : He.DefD := ⟨("Book", some "with_part"), "with_part", "Book.with_part", defArgs s_Book_with_part, defBody s_Book_with_part, defScope s_Book_with_part, [], []⟩
def D_Book_first_at : He.DefD := ⟨("Book", some "first_at"), "first_at", "Book.first_at", defArgs s_Book_first_at, defBody s_Book_first_at, defScope s_Book_first_at, [], []⟩
def D_Book_due_at : He.DefD := ⟨("Book", some "due_at"), "due_at", "Book.due_at", defArgs s_Book_due_at, defBody s_Book_due_at, defScope s_Book_due_at, [], []⟩
def D_Book_rate_of : He.DefD := ⟨("Book", some "rate_of"), "rate_of", "Book.rate_of", defArgs s_Book_rate_of, defBody s_Book_rate_of, defScope s_Book_rate_of, [], []⟩
def D_Book_is_free : He.DefD := ⟨("Book", some "is_free"), "is_free", "Book.is_free", defArgs s_Book_is_free, defBody s_Book_is_free, defScope s_Book_is_free, [], []⟩
def D_need_book : He.DefD := ⟨("need_book", none), "need_book", "need_book", defArgs s_need_book, defBody s_need_book, defScope s_need_book, [], []⟩
def D_are_of_one_sort : He.DefD := ⟨("are_of_one_sort", none), "are_of_one_sort", "are_of_one_sort", defArgs s_are_of_one_sort, defBody s_are_of_one_sort, defScope s_are_of_one_sort, [], []⟩
def D_need_pair : He.DefD := ⟨("need_pair", none), "need_pair", "need_pair", defArgs s_need_pair, defBody s_need_pair, defScope s_need_pair, [], []⟩
def D_is_from_own_day : He.DefD := ⟨("is_from_own_day", none), "is_from_own_day", "is_from_own_day", defArgs s_is_from_own_day, defBody s_is_from_own_day, defScope s_is_from_own_day, [], []⟩
def D_why_dearer : He.DefD := ⟨("why_dearer", none), "why_dearer", "why_dearer", defArgs s_why_dearer, defBody s_why_dearer, defScope s_why_dearer, [], []⟩
def D_by_rate : He.DefD := ⟨("by_rate", none), "by_rate", "by_rate", defArgs s_by_rate, defBody s_by_rate, defScope s_by_rate, [], []⟩
def D_by_begin : He.DefD := ⟨("by_begin", none), "by_begin", "by_begin", defArgs s_by_begin, defBody s_by_begin, defScope s_by_begin, [], []⟩
def D_by_memory : He.DefD := ⟨("by_memory", none), "by_memory", "by_memory", defArgs s_by_memory, defBody s_by_memory, defScope s_by_memory, [], []⟩
def D_course_for : He.DefD := ⟨("course_for", none), "course_for", "course_for", defArgs s_course_for, defBody s_course_for, defScope s_course_for, [], []⟩
def D_dearer_course : He.DefD := ⟨("dearer_course", none), "dearer_course", "dearer_course", defArgs s_dearer_course, defBody s_dearer_course, defScope s_dearer_course, [], []⟩
def D_never_dearer : He.DefD := ⟨("never_dearer", none), "never_dearer", "never_dearer", defArgs s_never_dearer, defBody s_never_dearer, defScope s_never_dearer, [], []⟩
def D_parting_course : He.DefD := ⟨("parting_course", none), "parting_course", "parting_course", defArgs s_parting_course, defBody s_parting_course, defScope s_parting_course, [], []⟩
def D_alike : He.DefD := ⟨("alike", none), "alike", "alike", defArgs s_alike, defBody s_alike, defScope s_alike, [], []⟩
def D__law_both : He.DefD := ⟨("_law_both", none), "_law_both", "_law_both", defArgs s__law_both, defBody s__law_both, defScope s__law_both, [], []⟩
def D__law_known_rows : He.DefD := ⟨("_law_known_rows", none), "_law_known_rows", "_law_known_rows", defArgs s__law_known_rows, defBody s__law_known_rows, defScope s__law_known_rows, [], []⟩
def D__law_bare_right : He.DefD := ⟨("_law_bare_right", none), "_law_bare_right", "_law_bare_right", defArgs s__law_bare_right, defBody s__law_bare_right, defScope s__law_bare_right, [], []⟩
def D__law_fixed_right : He.DefD := ⟨("_law_fixed_right", none), "_law_fixed_right", "_law_fixed_right", defArgs s__law_fixed_right, defBody s__law_fixed_right, defScope s__law_fixed_right, [], []⟩
def D_law : He.DefD := ⟨("law", none), "law", "law", defArgs s_law, defBody s_law, defScope s_law, [], []⟩
def fnL : List He.DefD := [D__law_begun, D__law_mixed, D__law_take, D__law_pick, D_is_number, D_is_number_in, D_is_list, D_is_name, D_are_lengths, D_is_kind, D_are_kinds, D_Book___init__, D_Book_parts_told, D_Book_with_part, D_Book_first_at, D_Book_due_at, D_Book_rate_of, D_Book_is_free, D_need_book, D_are_of_one_sort, D_need_pair, D_is_from_own_day, D_why_dearer, D_by_rate, D_by_begin, D_by_memory, D_course_for, D_dearer_course, D_never_dearer, D_parting_course, D_alike, D__law_both, D__law_known_rows, D__law_bare_right, D__law_fixed_right, D_law]
def faL : List He.Fa := ([.glo "_law_begun", .glo "_law_mixed", .glo "_law_take", .glo "_law_pick", .glo "is_number", .glo "is_number_in", .glo "is_list", .glo "is_name", .glo "are_lengths", .glo "is_kind", .glo "are_kinds", .glo "need_book", .glo "are_of_one_sort", .glo "need_pair", .glo "is_from_own_day", .glo "why_dearer", .glo "by_rate", .glo "by_begin", .glo "by_memory", .glo "course_for", .glo "dearer_course", .glo "never_dearer", .glo "parting_course", .glo "alike", .glo "_law_both", .glo "_law_known_rows", .glo "_law_bare_right", .glo "_law_fixed_right", .glo "law", .glo "CreditError"] : List He.Fa) ++ ([.glo "BadBook", .glo "BadPart", .glo "BadNumber", .glo "Unlike", .glo "Book", .free "all", .free "bool", .free "dict", .free "int", .free "isinstance", .free "len", .free "list", .free "max", .free "min", .free "range", .free "sorted", .free "str", .free "sum", .free "super", .free "tuple", .free "zip", .str "BUY" "buy", .str "DAY" "day", .str "LETTERS" "abcdefghijklmnopqrstuvwxyz", .int "LONGEST" 31, .int "MOST_DAY" 2000, .int "MOST_KINDS" 6, .int "MOST_LENGTHS" 4, .int "MOST_MEMORY" 2, .int "MOST_NAME" 8] : List He.Fa) ++ ([.int "MOST_RATE" 1000, .glo "PARTS", .str "PAY" "pay", .int "SHORTEST" 2, .str "STATEMENT" "statement", .cls "Book", .mkr "Book", .noat "Book" "b_lengths", .noat "Book" "b_due", .noat "Book" "b_kinds", .noat "Book" "b_memory", .noat "Book" "b_begins", .noat "Book" "b_laid", .meth "Book" "parts_told", .meth "Book" "with_part", .meth "Book" "first_at", .meth "Book" "due_at", .meth "Book" "rate_of", .meth "Book" "is_free"] : List He.Fa)
def exB (K : PySem.W.Frag) : Bool := insB K (He.ga K "Book") && He.tupB K "PARTS" [.str "lengths", .str "due", .str "kinds", .str "memory", .str "begins", .str "laid"]
abbrev Rw : PySem.W.OpenRow := PySem.W.OpenLaw.row PySem.Challenge.rw_wholepaid_k22_known_pairs_of_books
def G_Book_lengths : GetD := ⟨"Book", "lengths", "Book.lengths", defArgs s_Book_lengths, defBody s_Book_lengths, defScope s_Book_lengths⟩
def G_Book_due : GetD := ⟨"Book", "due", "Book.due", defArgs s_Book_due, defBody s_Book_due, defScope s_Book_due⟩
def G_Book_kinds : GetD := ⟨"Book", "kinds", "Book.kinds", defArgs s_Book_kinds, defBody s_Book_kinds, defScope s_Book_kinds⟩
def G_Book_memory : GetD := ⟨"Book", "memory", "Book.memory", defArgs s_Book_memory, defBody s_Book_memory, defScope s_Book_memory⟩
def G_Book_begins : GetD := ⟨"Book", "begins", "Book.begins", defArgs s_Book_begins, defBody s_Book_begins, defScope s_Book_begins⟩
def G_Book_laid : GetD := ⟨"Book", "laid", "Book.laid", defArgs s_Book_laid, defBody s_Book_laid, defScope s_Book_laid⟩
def gsL : List GetD := [G_Book_lengths, G_Book_due, G_Book_kinds, G_Book_memory, G_Book_begins, G_Book_laid]
abbrev hkL : PySem.W.Hook := hookY 6 faL fnL gsL exB
def obL (s : PySem.W.SharedT) : AlY := obsY 6 faL fnL gsL exB (HandSHeadRun.getT s)
theorem obL_eq (s : PySem.W.SharedT) : obL s = hkL.obs s.abs := obsY_eq (HandSHeadRun.getT_eq s)
def looseL : List Str := (["_wall", "CreditError", "BadBook", "BadPart", "BadNumber", "Unlike", "LETTERS", "MOST_NAME", "MOST_KINDS", "MOST_RATE", "MOST_LENGTHS", "SHORTEST", "LONGEST", "MOST_MEMORY", "MOST_DAY", "DAY", "STATEMENT", "PARTS", "is_number", "is_number_in", "is_list", "is_name", "are_lengths", "is_kind", "are_kinds", "is_order", "need_number", "Book", "need_book", "BUY"] : List Str) ++ (["PAY", "are_of_one_sort", "need_pair", "is_from_own_day", "why_dearer", "by_rate", "by_begin", "by_memory", "course_for", "dearer_course", "never_dearer", "parting_course", "alike", "_law_begun", "_law_mixed", "_law_take", "_law_pick", "_law_both", "_law_known_rows", "_law_bare_right", "_law_fixed_right"] : List Str)
theorem runL (w : World) : HandSHeadRun.RunEq Rw (PySem.W.view Rw.prog [55]) hkL obL 12000 looseL w := by
  intro os
  kernel_rfl
theorem factsL {P : Program} {w : World} {K : PySem.W.Frag} {h : Heap} {mg : Str → Option Value} {f : Addr} (X : K.In h) (G : h.Ns mainGlobals mg) (hfa : mg ("law" : Str) = some (.ref f)) (c : He.SaysD faL fnL K) (ex : exB K = true) (gg : ∀ d ∈ gsL, PropOf K (He.ga K d.c) d.f (He.ma K (He.ga K d.c) d.f) (gAd K d.c d.f) ∧ ∃ fd, FunD K d.f d.qual d.params d.body d.scope [] [] (gAd K d.c d.f) fd) :
    ∃ fd : FuncData, (∀ (s : Shared) (v : Value), BindsTo s fd ⟨[v], []⟩ [("_law_script", v)]) ∧ ∀ base : Heap, K.In base → base.Ns mainGlobals mg → FnG P w K mg base CX0 10 f fd ["_law_script"] (spLaw K) := by
  obtain ⟨fd__law_begun, F__law_begun⟩ := c.def_ 0 (d := D__law_begun) rfl
  obtain ⟨fd__law_mixed, F__law_mixed⟩ := c.def_ 1 (d := D__law_mixed) rfl
  obtain ⟨fd__law_take, F__law_take⟩ := c.def_ 2 (d := D__law_take) rfl
  obtain ⟨fd__law_pick, F__law_pick⟩ := c.def_ 3 (d := D__law_pick) rfl
  obtain ⟨fd_is_number, F_is_number⟩ := c.def_ 4 (d := D_is_number) rfl
  obtain ⟨fd_is_number_in, F_is_number_in⟩ := c.def_ 5 (d := D_is_number_in) rfl
  obtain ⟨fd_is_list, F_is_list⟩ := c.def_ 6 (d := D_is_list) rfl
  obtain ⟨fd_is_name, F_is_name⟩ := c.def_ 7 (d := D_is_name) rfl
  obtain ⟨fd_are_lengths, F_are_lengths⟩ := c.def_ 8 (d := D_are_lengths) rfl
  obtain ⟨fd_is_kind, F_is_kind⟩ := c.def_ 9 (d := D_is_kind) rfl
  obtain ⟨fd_are_kinds, F_are_kinds⟩ := c.def_ 10 (d := D_are_kinds) rfl
  obtain ⟨fd_Book___init__, F_Book___init__⟩ := c.def_ 11 (d := D_Book___init__) rfl
  obtain ⟨fd_Book_parts_told, F_Book_parts_told⟩ := c.def_ 12 (d := D_Book_parts_told) rfl
  obtain ⟨fd_Book_with_part, F_Book_with_part⟩ := c.def_ 13 (d := D_Book_with_part) rfl
  obtain ⟨fd_Book_first_at, F_Book_first_at⟩ := c.def_ 14 (d := D_Book_first_at) rfl
  obtain ⟨fd_Book_due_at, F_Book_due_at⟩ := c.def_ 15 (d := D_Book_due_at) rfl
  obtain ⟨fd_Book_rate_of, F_Book_rate_of⟩ := c.def_ 16 (d := D_Book_rate_of) rfl
  obtain ⟨fd_Book_is_free, F_Book_is_free⟩ := c.def_ 17 (d := D_Book_is_free) rfl
  obtain ⟨fd_need_book, F_need_book⟩ := c.def_ 18 (d := D_need_book) rfl
  obtain ⟨fd_are_of_one_sort, F_are_of_one_sort⟩ := c.def_ 19 (d := D_are_of_one_sort) rfl
  obtain ⟨fd_need_pair, F_need_pair⟩ := c.def_ 20 (d := D_need_pair) rfl
  obtain ⟨fd_is_from_own_day, F_is_from_own_day⟩ := c.def_ 21 (d := D_is_from_own_day) rfl
  obtain ⟨fd_why_dearer, F_why_dearer⟩ := c.def_ 22 (d := D_why_dearer) rfl
  obtain ⟨fd_by_rate, F_by_rate⟩ := c.def_ 23 (d := D_by_rate) rfl
  obtain ⟨fd_by_begin, F_by_begin⟩ := c.def_ 24 (d := D_by_begin) rfl
  obtain ⟨fd_by_memory, F_by_memory⟩ := c.def_ 25 (d := D_by_memory) rfl
  obtain ⟨fd_course_for, F_course_for⟩ := c.def_ 26 (d := D_course_for) rfl
  obtain ⟨fd_dearer_course, F_dearer_course⟩ := c.def_ 27 (d := D_dearer_course) rfl
  obtain ⟨fd_never_dearer, F_never_dearer⟩ := c.def_ 28 (d := D_never_dearer) rfl
  obtain ⟨fd_parting_course, F_parting_course⟩ := c.def_ 29 (d := D_parting_course) rfl
  obtain ⟨fd_alike, F_alike⟩ := c.def_ 30 (d := D_alike) rfl
  obtain ⟨fd__law_both, F__law_both⟩ := c.def_ 31 (d := D__law_both) rfl
  obtain ⟨fd__law_known_rows, F__law_known_rows⟩ := c.def_ 32 (d := D__law_known_rows) rfl
  obtain ⟨fd__law_bare_right, F__law_bare_right⟩ := c.def_ 33 (d := D__law_bare_right) rfl
  obtain ⟨fd__law_fixed_right, F__law_fixed_right⟩ := c.def_ 34 (d := D__law_fixed_right) rfl
  obtain ⟨fd_law, F_law⟩ := c.def_ 35 (d := D_law) rfl
  obtain ⟨pr_Book_lengths, fd_Book_lengths, F_Book_lengths⟩ := gg G_Book_lengths (List.mem_of_getElem? (i := 0) rfl)
  obtain ⟨pr_Book_due, fd_Book_due, F_Book_due⟩ := gg G_Book_due (List.mem_of_getElem? (i := 1) rfl)
  obtain ⟨pr_Book_kinds, fd_Book_kinds, F_Book_kinds⟩ := gg G_Book_kinds (List.mem_of_getElem? (i := 2) rfl)
  obtain ⟨pr_Book_memory, fd_Book_memory, F_Book_memory⟩ := gg G_Book_memory (List.mem_of_getElem? (i := 3) rfl)
  obtain ⟨pr_Book_begins, fd_Book_begins, F_Book_begins⟩ := gg G_Book_begins (List.mem_of_getElem? (i := 4) rfl)
  obtain ⟨pr_Book_laid, fd_Book_laid, F_Book_laid⟩ := gg G_Book_laid (List.mem_of_getElem? (i := 5) rfl)
  have e := hfa.symm.trans (He.glo_ok X G (c.fact 28 (f := .glo "law") rfl))
  cases e
  have ex12 : (insB K (He.ga K "Book") && He.tupB K "PARTS" [.str "lengths", .str "due", .str "kinds", .str "memory", .str "begins", .str "laid"]) = true := ex
  have tup_PARTS := (He.ba ex12).2
  have T : Tx K mg := { b_all := He.free_ok X G (c.fact 35 (f := .free "all") rfl), b_bool := He.free_ok X G (c.fact 36 (f := .free "bool") rfl), b_dict := He.free_ok X G (c.fact 37 (f := .free "dict") rfl), b_int := He.free_ok X G (c.fact 38 (f := .free "int") rfl), b_isinstance := He.free_ok X G (c.fact 39 (f := .free "isinstance") rfl), b_len := He.free_ok X G (c.fact 40 (f := .free "len") rfl), b_list := He.free_ok X G (c.fact 41 (f := .free "list") rfl), b_max := He.free_ok X G (c.fact 42 (f := .free "max") rfl), b_min := He.free_ok X G (c.fact 43 (f := .free "min") rfl), b_range := He.free_ok X G (c.fact 44 (f := .free "range") rfl), b_sorted := He.free_ok X G (c.fact 45 (f := .free "sorted") rfl), b_str := He.free_ok X G (c.fact 46 (f := .free "str") rfl), b_sum := He.free_ok X G (c.fact 47 (f := .free "sum") rfl), b_super := He.free_ok X G (c.fact 48 (f := .free "super") rfl), b_tuple := He.free_ok X G (c.fact 49 (f := .free "tuple") rfl), b_zip := He.free_ok X G (c.fact 50 (f := .free "zip") rfl), c_BUY := He.str_ok X G (c.fact 51 (f := .str "BUY" "buy") rfl), c_DAY := He.str_ok X G (c.fact 52 (f := .str "DAY" "day") rfl), c_LETTERS := He.str_ok X G (c.fact 53 (f := .str "LETTERS" "abcdefghijklmnopqrstuvwxyz") rfl), c_LONGEST := He.int_ok X G (c.fact 54 (f := .int "LONGEST" 31) rfl), c_MOST_DAY := He.int_ok X G (c.fact 55 (f := .int "MOST_DAY" 2000) rfl), c_MOST_KINDS := He.int_ok X G (c.fact 56 (f := .int "MOST_KINDS" 6) rfl), c_MOST_LENGTHS := He.int_ok X G (c.fact 57 (f := .int "MOST_LENGTHS" 4) rfl), c_MOST_MEMORY := He.int_ok X G (c.fact 58 (f := .int "MOST_MEMORY" 2) rfl), c_MOST_NAME := He.int_ok X G (c.fact 59 (f := .int "MOST_NAME" 8) rfl), c_MOST_RATE := He.int_ok X G (c.fact 60 (f := .int "MOST_RATE" 1000) rfl), g_PARTS := He.glo_ok X G (c.fact 61 (f := .glo "PARTS") rfl), t_PARTS := fun H => He.tupB_ok tup_PARTS H, c_PAY := He.str_ok X G (c.fact 62 (f := .str "PAY" "pay") rfl), c_SHORTEST := He.int_ok X G (c.fact 63 (f := .int "SHORTEST" 2) rfl), c_STATEMENT := He.str_ok X G (c.fact 64 (f := .str "STATEMENT" "statement") rfl), g_CreditError := He.glo_ok X G (c.fact 29 (f := .glo "CreditError") rfl), g_BadBook := He.glo_ok X G (c.fact 30 (f := .glo "BadBook") rfl), g_BadPart := He.glo_ok X G (c.fact 31 (f := .glo "BadPart") rfl), g_BadNumber := He.glo_ok X G (c.fact 32 (f := .glo "BadNumber") rfl), g_Unlike := He.glo_ok X G (c.fact 33 (f := .glo "Unlike") rfl), g_Book := He.glo_ok X G (c.fact 34 (f := .glo "Book") rfl) }
  have clBook := He.cls_ok (c.fact 65 (f := .cls "Book") rfl)
  have mkBook := He.mkr_ok (c.fact 66 (f := .mkr "Book") rfl)
  have insBook := insB_ok clBook (He.ba ex12).1
  have bcBook : BkC K (He.ga K "Book") := ⟨clBook, He.noat_ok (c.fact 67 (f := .noat "Book" "b_lengths") rfl), He.noat_ok (c.fact 68 (f := .noat "Book" "b_due") rfl), He.noat_ok (c.fact 69 (f := .noat "Book" "b_kinds") rfl), He.noat_ok (c.fact 70 (f := .noat "Book" "b_memory") rfl), He.noat_ok (c.fact 71 (f := .noat "Book" "b_begins") rfl), He.noat_ok (c.fact 72 (f := .noat "Book" "b_laid") rfl)⟩
  obtain ⟨bds, bvs, bBook'⟩ := FunD.binds1 (ps := ["self", "lengths", "due", "kinds", "memory", "begins", "laid"]) F_Book___init__ 7 3 (List.cons_ne_nil _ _) rfl (fun T' kV doc pm an cdv ct us its h1 h2 => match us, its, h1, h2 with | [_, _, _, _, _, _, _], [_, _, _], _, _ => ⟨_, rfl, rfl⟩)
  have bBook : Binds K fd_Book___init__ ["self", "lengths", "due", "kinds", "memory", "begins", "laid"] [] := by cases bvs; exact bBook'
  obtain ⟨bd5, bv5, bBook5⟩ := FunD.binds1 (ps := ["self", "lengths", "due", "kinds", "memory", "begins", "laid"]) F_Book___init__ 6 2 (List.cons_ne_nil _ _) rfl (fun T' kV doc pm an cdv ct us its h1 h2 => match us, its, h1, h2 with | [_, _, _, _, _, _], [_, _, _], _, _ => ⟨_, rfl, rfl⟩)
  have b := FunD.bindsA (ps := ["_law_script"]) F_law fun _ _ _ _ _ _ us hl => match us, hl with | [_], _ => rfl
  refine ⟨fd_law, fun s v => b s [v] rfl, fun base inB nsB => ?_⟩
  have m_lengths : Dpr P w K mg base CX0 1 (He.ga K "Book") "lengths" (sp_g_lengths (He.ga K "Book")) := ⟨⟨_, _, _, _, pr_Book_lengths, ok_Book_lengths T bcBook F_Book_lengths, FunD.bindsN F_Book_lengths fun _ _ _ _ _ _ us hl => match us, hl with | [_], _ => rfl⟩, clBook⟩
  have m_due : Dpr P w K mg base CX0 1 (He.ga K "Book") "due" (sp_g_due (He.ga K "Book")) := ⟨⟨_, _, _, _, pr_Book_due, ok_Book_due T bcBook F_Book_due, FunD.bindsN F_Book_due fun _ _ _ _ _ _ us hl => match us, hl with | [_], _ => rfl⟩, clBook⟩
  have m_kinds : Dpr P w K mg base CX0 1 (He.ga K "Book") "kinds" (sp_g_kinds (He.ga K "Book")) := ⟨⟨_, _, _, _, pr_Book_kinds, ok_Book_kinds T bcBook F_Book_kinds, FunD.bindsN F_Book_kinds fun _ _ _ _ _ _ us hl => match us, hl with | [_], _ => rfl⟩, clBook⟩
  have m_memory : Dpr P w K mg base CX0 1 (He.ga K "Book") "memory" (sp_g_memory (He.ga K "Book")) := ⟨⟨_, _, _, _, pr_Book_memory, ok_Book_memory T bcBook F_Book_memory, FunD.bindsN F_Book_memory fun _ _ _ _ _ _ us hl => match us, hl with | [_], _ => rfl⟩, clBook⟩
  have m_begins : Dpr P w K mg base CX0 1 (He.ga K "Book") "begins" (sp_g_begins (He.ga K "Book")) := ⟨⟨_, _, _, _, pr_Book_begins, ok_Book_begins T bcBook F_Book_begins, FunD.bindsN F_Book_begins fun _ _ _ _ _ _ us hl => match us, hl with | [_], _ => rfl⟩, clBook⟩
  have m_laid : Dpr P w K mg base CX0 1 (He.ga K "Book") "laid" (sp_g_laid (He.ga K "Book")) := ⟨⟨_, _, _, _, pr_Book_laid, ok_Book_laid T bcBook F_Book_laid, FunD.bindsN F_Book_laid fun _ _ _ _ _ _ us hl => match us, hl with | [_], _ => rfl⟩, clBook⟩
  have d__law_begun : Dn P w K mg base CX0 1 "_law_begun" ["_law_script"] (sp_begun K) := ⟨⟨_, ok__law_begun T F__law_begun, FunD.bindsN F__law_begun fun _ _ _ _ _ _ us hl => match us, hl with | [_], _ => rfl⟩, He.glo_ok X G (c.fact 0 (f := .glo "_law_begun") rfl), F__law_begun.kp⟩
  have d__law_mixed : Dn P w K mg base CX0 1 "_law_mixed" ["_law_state"] sp_mixed := ⟨⟨_, ok__law_mixed T F__law_mixed, FunD.bindsN F__law_mixed fun _ _ _ _ _ _ us hl => match us, hl with | [_], _ => rfl⟩, He.glo_ok X G (c.fact 1 (f := .glo "_law_mixed") rfl), F__law_mixed.kp⟩
  have d__law_take : Dn P w K mg base CX0 2 "_law_take" ["_law_state", "_law_size"] sp_take := ⟨⟨_, ok__law_take T F__law_take d__law_mixed, FunD.bindsN F__law_take fun _ _ _ _ _ _ us hl => match us, hl with | [_, _], _ => rfl⟩, He.glo_ok X G (c.fact 2 (f := .glo "_law_take") rfl), F__law_take.kp⟩
  have d__law_pick : Dn P w K mg base CX0 3 "_law_pick" ["_law_state", "_law_some"] sp_pick := ⟨⟨_, ok__law_pick T F__law_pick d__law_take, FunD.bindsN F__law_pick fun _ _ _ _ _ _ us hl => match us, hl with | [_, _], _ => rfl⟩, He.glo_ok X G (c.fact 3 (f := .glo "_law_pick") rfl), F__law_pick.kp⟩
  have d_is_number : Dn P w K mg base CX0 1 "is_number" ["value"] (sp_is_number K) := ⟨⟨_, ok_is_number T F_is_number, FunD.bindsN F_is_number fun _ _ _ _ _ _ us hl => match us, hl with | [_], _ => rfl⟩, He.glo_ok X G (c.fact 4 (f := .glo "is_number") rfl), F_is_number.kp⟩
  have d_is_number_in : Dn P w K mg base CX0 2 "is_number_in" ["value", "least", "most"] (sp_is_number_in K) := ⟨⟨_, ok_is_number_in T F_is_number_in d_is_number, FunD.bindsN F_is_number_in fun _ _ _ _ _ _ us hl => match us, hl with | [_, _, _], _ => rfl⟩, He.glo_ok X G (c.fact 5 (f := .glo "is_number_in") rfl), F_is_number_in.kp⟩
  have d_is_list : Dn P w K mg base CX0 1 "is_list" ["value"] (sp_is_list K) := ⟨⟨_, ok_is_list T F_is_list, FunD.bindsN F_is_list fun _ _ _ _ _ _ us hl => match us, hl with | [_], _ => rfl⟩, He.glo_ok X G (c.fact 6 (f := .glo "is_list") rfl), F_is_list.kp⟩
  have d_is_name : Dn P w K mg base CX0 1 "is_name" ["value"] sp_is_name := ⟨⟨_, ok_is_name T F_is_name, FunD.bindsN F_is_name fun _ _ _ _ _ _ us hl => match us, hl with | [_], _ => rfl⟩, He.glo_ok X G (c.fact 7 (f := .glo "is_name") rfl), F_is_name.kp⟩
  have d_are_lengths : Dn P w K mg base CX0 3 "are_lengths" ["value"] (sp_are_lengths K) := ⟨⟨_, ok_are_lengths T F_are_lengths d_is_list d_is_number_in, FunD.bindsN F_are_lengths fun _ _ _ _ _ _ us hl => match us, hl with | [_], _ => rfl⟩, He.glo_ok X G (c.fact 8 (f := .glo "are_lengths") rfl), F_are_lengths.kp⟩
  have d_is_kind : Dn P w K mg base CX0 3 "is_kind" ["value"] sp_is_kind := ⟨⟨_, ok_is_kind T F_is_kind d_is_number_in, FunD.bindsN F_is_kind fun _ _ _ _ _ _ us hl => match us, hl with | [_], _ => rfl⟩, He.glo_ok X G (c.fact 9 (f := .glo "is_kind") rfl), F_is_kind.kp⟩
  have d_are_kinds : Dn P w K mg base CX0 4 "are_kinds" ["value"] sp_are_kinds := ⟨⟨_, ok_are_kinds T F_are_kinds d_is_name d_is_kind, FunD.bindsN F_are_kinds fun _ _ _ _ _ _ us hl => match us, hl with | [_], _ => rfl⟩, He.glo_ok X G (c.fact 10 (f := .glo "are_kinds") rfl), F_are_kinds.kp⟩
  have mk_Book : Dc P w K mg base CX0 5 "Book" (sp_Book (He.ga K "Book")) := ⟨⟨_, _, _, _, [], [], mkBook, ok_Book_init T bcBook F_Book___init__ d_is_number_in d_are_lengths d_are_kinds, bBook, .nil, fun vs H Q E z => imp_Book vs H Q E z⟩, T.g_Book⟩
  have mk_Book_5 : Dc P w K mg base CX0 5 "Book" (sp_Book5 (He.ga K "Book")) := ⟨⟨_, _, _, _, [.non], bd5, mkBook, ok_Book_init T bcBook F_Book___init__ d_is_number_in d_are_lengths d_are_kinds, bBook5, bv5, fun vs H Q E z => imp_Book5 vs H Q E z⟩, T.g_Book⟩
  have mt_Book_parts_told : Dm P w K mg base CX0 1 (He.ga K "Book") "parts_told" (sp_parts_told (He.ga K "Book")) := ⟨⟨_, _, _, He.meth_ok (c.fact 73 (f := .meth "Book" "parts_told") rfl), ok_Book_parts_told T bcBook F_Book_parts_told, FunD.bindsN F_Book_parts_told fun _ _ _ _ _ _ us hl => match us, hl with | [_], _ => rfl⟩, clBook⟩
  have mt_Book_with_part : Dm P w K mg base CX0 7 (He.ga K "Book") "with_part" (sp_with_part (He.ga K "Book")) := ⟨⟨_, _, _, He.meth_ok (c.fact 74 (f := .meth "Book" "with_part") rfl), ok_Book_with_part T F_Book_with_part mt_Book_parts_told mk_Book, FunD.bindsN F_Book_with_part fun _ _ _ _ _ _ us hl => match us, hl with | [_, _, _], _ => rfl⟩, clBook⟩
  have mt_Book_first_at : Dm P w K mg base CX0 1 (He.ga K "Book") "first_at" (sp_first_at (He.ga K "Book")) := ⟨⟨_, _, _, He.meth_ok (c.fact 75 (f := .meth "Book" "first_at") rfl), ok_Book_first_at T bcBook F_Book_first_at, FunD.bindsN F_Book_first_at fun _ _ _ _ _ _ us hl => match us, hl with | [_, _], _ => rfl⟩, clBook⟩
  have mt_Book_due_at : Dm P w K mg base CX0 2 (He.ga K "Book") "due_at" (sp_due_at (He.ga K "Book")) := ⟨⟨_, _, _, He.meth_ok (c.fact 76 (f := .meth "Book" "due_at") rfl), ok_Book_due_at T bcBook F_Book_due_at mt_Book_first_at, FunD.bindsN F_Book_due_at fun _ _ _ _ _ _ us hl => match us, hl with | [_, _], _ => rfl⟩, clBook⟩
  have mt_Book_rate_of : Dm P w K mg base CX0 1 (He.ga K "Book") "rate_of" (sp_rate_of (He.ga K "Book")) := ⟨⟨_, _, _, He.meth_ok (c.fact 77 (f := .meth "Book" "rate_of") rfl), ok_Book_rate_of T bcBook F_Book_rate_of, FunD.bindsN F_Book_rate_of fun _ _ _ _ _ _ us hl => match us, hl with | [_, _], _ => rfl⟩, clBook⟩
  have mt_Book_is_free : Dm P w K mg base CX0 1 (He.ga K "Book") "is_free" (sp_is_free (He.ga K "Book")) := ⟨⟨_, _, _, He.meth_ok (c.fact 78 (f := .meth "Book" "is_free") rfl), ok_Book_is_free T bcBook F_Book_is_free, FunD.bindsN F_Book_is_free fun _ _ _ _ _ _ us hl => match us, hl with | [_, _], _ => rfl⟩, clBook⟩
  have d_need_book : Dn P w K mg base CX0 1 "need_book" ["value"] (sp_need_book (He.ga K "Book")) := ⟨⟨_, ok_need_book T insBook F_need_book, FunD.bindsN F_need_book fun _ _ _ _ _ _ us hl => match us, hl with | [_], _ => rfl⟩, He.glo_ok X G (c.fact 11 (f := .glo "need_book") rfl), F_need_book.kp⟩
  have d_are_of_one_sort : Dn P w K mg base CX0 3 "are_of_one_sort" ["one", "other"] (sp_one_sort (He.ga K "Book")) := ⟨⟨_, ok_are_of_one_sort T F_are_of_one_sort m_laid m_lengths m_kinds, FunD.bindsN F_are_of_one_sort fun _ _ _ _ _ _ us hl => match us, hl with | [_, _], _ => rfl⟩, He.glo_ok X G (c.fact 12 (f := .glo "are_of_one_sort") rfl), F_are_of_one_sort.kp⟩
  have d_need_pair : Dn P w K mg base CX0 4 "need_pair" ["one", "other"] (sp_need_pair (He.ga K "Book")) := ⟨⟨_, ok_need_pair T F_need_pair d_need_book d_are_of_one_sort, FunD.bindsN F_need_pair fun _ _ _ _ _ _ us hl => match us, hl with | [_, _], _ => rfl⟩, He.glo_ok X G (c.fact 13 (f := .glo "need_pair") rfl), F_need_pair.kp⟩
  have d_is_from_own_day : Dn P w K mg base CX0 3 "is_from_own_day" ["book", "kind"] (sp_own_day (He.ga K "Book")) := ⟨⟨_, ok_is_from_own_day T F_is_from_own_day mt_Book_is_free m_begins, FunD.bindsN F_is_from_own_day fun _ _ _ _ _ _ us hl => match us, hl with | [_, _], _ => rfl⟩, He.glo_ok X G (c.fact 14 (f := .glo "is_from_own_day") rfl), F_is_from_own_day.kp⟩
  have d_why_dearer : Dn P w K mg base CX0 4 "why_dearer" ["one", "other", "kind"] (sp_why (He.ga K "Book")) := ⟨⟨_, ok_why_dearer T F_why_dearer mt_Book_rate_of mt_Book_is_free m_begins m_due m_memory d_is_from_own_day, FunD.bindsN F_why_dearer fun _ _ _ _ _ _ us hl => match us, hl with | [_, _, _], _ => rfl⟩, He.glo_ok X G (c.fact 15 (f := .glo "why_dearer") rfl), F_why_dearer.kp⟩
  have d_by_rate : Dn P w K mg base CX0 3 "by_rate" ["one", "other", "kind"] (sp_by K (He.ga K "Book") cRate) := ⟨⟨_, ok_by_rate T F_by_rate mt_Book_rate_of mt_Book_first_at mt_Book_due_at, FunD.bindsN F_by_rate fun _ _ _ _ _ _ us hl => match us, hl with | [_, _, _], _ => rfl⟩, He.glo_ok X G (c.fact 16 (f := .glo "by_rate") rfl), F_by_rate.kp⟩
  have d_by_begin : Dn P w K mg base CX0 3 "by_begin" ["one", "other", "kind"] (sp_by K (He.ga K "Book") cPos) := ⟨⟨_, ok_by_begin T F_by_begin mt_Book_rate_of mt_Book_first_at mt_Book_due_at, FunD.bindsN F_by_begin fun _ _ _ _ _ _ us hl => match us, hl with | [_, _, _], _ => rfl⟩, He.glo_ok X G (c.fact 17 (f := .glo "by_begin") rfl), F_by_begin.kp⟩
  have d_by_memory : Dn P w K mg base CX0 3 "by_memory" ["one", "other", "kind"] (sp_by K (He.ga K "Book") cMem) := ⟨⟨_, ok_by_memory T F_by_memory mt_Book_rate_of mt_Book_first_at mt_Book_due_at m_memory m_begins m_due, FunD.bindsN F_by_memory fun _ _ _ _ _ _ us hl => match us, hl with | [_, _, _], _ => rfl⟩, He.glo_ok X G (c.fact 18 (f := .glo "by_memory") rfl), F_by_memory.kp⟩
  have d_course_for : Dn P w K mg base CX0 5 "course_for" ["one", "other", "kind"] (sp_course_for K (He.ga K "Book")) := ⟨⟨_, ok_course_for T F_course_for d_why_dearer d_by_rate d_by_begin d_by_memory mt_Book_due_at, FunD.bindsN F_course_for fun _ _ _ _ _ _ us hl => match us, hl with | [_, _, _], _ => rfl⟩, He.glo_ok X G (c.fact 19 (f := .glo "course_for") rfl), F_course_for.kp⟩
  have d_dearer_course : Dn P w K mg base CX0 6 "dearer_course" ["one", "other"] (sp_dearer (He.ga K "Book")) := ⟨⟨_, ok_dearer_course T F_dearer_course d_course_for m_kinds, FunD.bindsN F_dearer_course fun _ _ _ _ _ _ us hl => match us, hl with | [_, _], _ => rfl⟩, He.glo_ok X G (c.fact 20 (f := .glo "dearer_course") rfl), F_dearer_course.kp⟩
  have d_never_dearer : Dn P w K mg base CX0 7 "never_dearer" ["one", "other"] (sp_never (He.ga K "Book")) := ⟨⟨_, ok_never_dearer T F_never_dearer d_need_pair d_dearer_course, FunD.bindsN F_never_dearer fun _ _ _ _ _ _ us hl => match us, hl with | [_, _], _ => rfl⟩, He.glo_ok X G (c.fact 21 (f := .glo "never_dearer") rfl), F_never_dearer.kp⟩
  have d_parting_course : Dn P w K mg base CX0 7 "parting_course" ["one", "other"] (sp_parting (He.ga K "Book")) := ⟨⟨_, ok_parting_course T F_parting_course d_dearer_course, FunD.bindsN F_parting_course fun _ _ _ _ _ _ us hl => match us, hl with | [_, _], _ => rfl⟩, He.glo_ok X G (c.fact 22 (f := .glo "parting_course") rfl), F_parting_course.kp⟩
  have d_alike : Dn P w K mg base CX0 8 "alike" ["one", "other"] (sp_alike (He.ga K "Book")) := ⟨⟨_, ok_alike T F_alike d_need_pair d_parting_course, FunD.bindsN F_alike fun _ _ _ _ _ _ us hl => match us, hl with | [_, _], _ => rfl⟩, He.glo_ok X G (c.fact 23 (f := .glo "alike") rfl), F_alike.kp⟩
  have d__law_both : Dn P w K mg base CX0 8 "_law_both" ["_law_made", "_law_twin"] (sp_both (He.ga K "Book")) := ⟨⟨_, ok__law_both T F__law_both d_never_dearer, FunD.bindsN F__law_both fun _ _ _ _ _ _ us hl => match us, hl with | [_, _], _ => rfl⟩, He.glo_ok X G (c.fact 24 (f := .glo "_law_both") rfl), F__law_both.kp⟩
  have d__law_known_rows : Dn P w K mg base CX0 3 "_law_known_rows" ["_law_ground", "_law_rated"] (sp_known_rows (He.ga K "Book")) := ⟨⟨_, ok__law_known_rows T F__law_known_rows m_due m_begins m_memory, FunD.bindsN F__law_known_rows fun _ _ _ _ _ _ us hl => match us, hl with | [_, _], _ => rfl⟩, He.glo_ok X G (c.fact 25 (f := .glo "_law_known_rows") rfl), F__law_known_rows.kp⟩
  have d__law_bare_right : Dn P w K mg base CX0 9 "_law_bare_right" ["_law_ground"] (sp_right1 (He.ga K "Book")) := ⟨⟨_, ok__law_bare_right T F__law_bare_right mt_Book_with_part d_alike, FunD.bindsN F__law_bare_right fun _ _ _ _ _ _ us hl => match us, hl with | [_], _ => rfl⟩, He.glo_ok X G (c.fact 26 (f := .glo "_law_bare_right") rfl), F__law_bare_right.kp⟩
  have d__law_fixed_right : Dn P w K mg base CX0 9 "_law_fixed_right" ["_law_ground", "_law_rated"] (sp_right2 (He.ga K "Book")) := ⟨⟨_, ok__law_fixed_right T F__law_fixed_right mt_Book_with_part d_alike d__law_both, FunD.bindsN F__law_fixed_right fun _ _ _ _ _ _ us hl => match us, hl with | [_, _], _ => rfl⟩, He.glo_ok X G (c.fact 27 (f := .glo "_law_fixed_right") rfl), F__law_fixed_right.kp⟩
  exact ok_law T F_law d__law_begun d__law_take d__law_pick mk_Book_5 mt_Book_with_part d__law_both d__law_known_rows d__law_bare_right d__law_fixed_right d_never_dearer d_alike
end Wp
open PySem PySem.W PySem.Calls PyProof.Rows
set_option maxRecDepth 100000 in
set_option maxHeartbeats 0 in
theorem PySem.Challenge.cw_wholepaid_k22_known_pairs_of_books_holds : PySem.Challenge.rw_wholepaid_k22_known_pairs_of_books.Holds := by
  w_on; o_law
  refine HandSHeadRun.head_any (r := Wp.Rw) (q := view Wp.Rw.prog [55]) (H := Wp.hkL) (ob := Wp.obL) (M := 12000) (loose := Wp.looseL) (d := HandSHeadRun.topDef Wp.Rw.prog 55) (kwd := []) Wp.obL_eq
    (by kernel_rfl) (fun s => by kernel_rfl) Wp.runL (by kernel_rfl) (by kernel_rfl) (by kernel_rfl) (by rfl) (by first | assumption | decide +kernel) (by decide +kernel) ⟨rfl, rfl, rfl, rfl, rfl, by decide +kernel⟩ ?hw ?hc
  case hw => w_witness2
  case hc =>
    refine Wp.walk_ofG (l := PySem.Challenge.rw_wholepaid_k22_known_pairs_of_books) (n := 63) (k := 10) (x := "_law_script") (CX := L2.CX0) rfl (by decide) (by kernel_rfl) ⟨rfl, by decide, by decide⟩ ?F (fun _ _ _ _ z => z)
    intro w mg fa h Y G hmg0
    obtain ⟨K, inK, cX⟩ := Y
    have hmg : mg ("law" : PySem.Str) = some (.ref fa) := by
      have e : (HandSHeadRun.topDef Wp.Rw.prog 55).name = ("law" : PySem.Str) := by kernel_rfl
      rw [← e]
      exact hmg0
    obtain ⟨fd, hb, hF⟩ := Wp.factsL (P := (PySem.Challenge.rw_wholepaid_k22_known_pairs_of_books).prog) (w := w) inK G hmg cX.x.t.d cX.x.more cX.g
    exact ⟨K, fd, Wp.spLaw K, inK, hb, fun H a zs hl _ hS => ⟨a, zs, rfl, hS, hl, fun _ => rfl⟩, hF⟩
