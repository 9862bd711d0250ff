import PyProof.Rows.All
import Wide.All
import OpenK.AllK
import Wide.FinOn
import HandS.ForMost
import HandS.ForExc
import HandS.IsInst
import HandS.Wide
import HandS.WideBits
import HandS.Gcd
import HandS.Defaults
import HandS.MakeKw
import HandS.Codes
import HandS.ExcIs
import HandS.EndBits
import HandS.Conv
import KE.KCallOwn
import HandS.Text
import HandS.StrMore
import HandS.FStr
import HandS.ClsMeth
import KE.IntTextLaws
import PyProof.Rows.StrAscii
import PyProof.Rows.StrFirst
import KE.DataEq
import KE.KDictWalk
import KE.DataMinMax
import HandS.Iter
import HandS.Property
import HandS.DictTup
import HandS.TupAny
import HandS.TupMul
import PyProof.Rows.StrMul
import HandS.ExcInit
import HandS.ExcField
import HandS.TryMany
import HandS.Nested
import KE.KExcSuper
import HandS.RaiseMore
import HandS.Star
import KE.GoesEnumKw
import KE.KExcIs
import HandS.NestedHot
import HandS.SuiteRaise
import HandS.ExcInitHot
import HandS.RaiseFrom
import HandS.Comp
import HandS.TupSets
import KE.KeyNested
import KE.SortData
import HandS.Zip
import PyProof.Draws
import HandS.SortKw
import HandS.DictComp
import HandS.WordsDict
import KE.KDictSum
import KE.GoesMore
import KE.GoesEnum
import HandS.More
import KE.RegKSuper
import PySem.Challenge.RW_oddskept_k18_takes
set_option Elab.async false
set_option linter.all false
set_option autoImplicit false
set_option maxRecDepth 100000
set_option maxHeartbeats 4000000
namespace U
open PySem PySem.Spec PyProof.Rows L2

/-! ## heaps -/
/-- all but what is named in M stands as it stood -/
def Kp (M : List Addr) (H H' : Hp) : Prop := ∀ b o, b ∉ M → H b = some o → H' b = some o
section
variable {M N : List Addr} {H H' H0 H1 : Hp} {p a b : Addr} {o u : HO}
theorem Kp.refl : Kp M H H := fun _ _ _ e => e
theorem Kp.trans (k : Kp M H H1) (k' : Kp M H1 H') : Kp M H H' := fun b o n e => k' b o n (k b o n e)
theorem Kp.get0 (k : Kp [] H H') (e : H a = some o) : H' a = some o := k a o (by simp) e
theorem Kp.get1 (k : Kp [p] H H') (n : a ≠ p) (e : H a = some o) : H' a = some o := k a o (by simpa using n) e
theorem Kp.of0 (k : Kp [] H H') : Kp M H H' := fun b o _ e => k b o (by simp) e
theorem Kp.new (n : H p = none) : Kp M H (upd H p o) := fun b u _ e => by rw [upd_ne (ne_of_none e n)]; exact e
theorem Kp.mut : Kp [p] H (upd H p o) := fun b u n e => by rw [upd_ne (by simpa using n)]; exact e
/-- what changes was not there at the beginning -/
theorem Kp.low (k : Kp M H0 H) (k1 : Kp [p] H H1) (n : H0 p = none) : Kp M H0 H1 := fun b o nb e => by
  refine k1 b o ?_ (k b o nb e)
  intro z
  have z' : b = p := by simpa using z
  rw [z', n] at e; cases e
theorem Kp.one (k : Kp [p] H0 H) (k1 : Kp [] H H1) : Kp [p] H0 H1 := k.trans k1.of0
theorem Kp.free (k : Kp [] H H') (n : H' p = none) : H p = none := by
  cases e : H p with
  | none => rfl
  | some o => rw [k.get0 e] at n; cases n
theorem Kp.ne_new (k : Kp M H H') (n : H' p = none) (e : H a = some o) (nm : a ∉ M) : a ≠ p := ne_of_none (k a o nm e) n
end

/-! ## steps -/
section
variable {σ : L2.St} {H : Hp} {Q : VK} {D : Ends} {ta tb te : TE} {t : TA} {K : PySem.W.Frag} {E : XK}
theorem u_var {i : Nat} {v : V} (h : σ[i]? = some (some v)) (q : Q v H) : tVar i σ H Q := ⟨v, h, q⟩
theorem u_c {v : V} (q : Q v H) : tC v σ H Q := q
theorem u_op {r : R2} (h : ta σ H fun x H1 => tb σ H1 fun y H2 => r x y H2 Q) : tOp r ta tb σ H Q := h
theorem u_un {r : V → Hp → VK → Prop} (h : ta σ H fun x H1 => r x H1 Q) : tUn r ta σ H Q := h
theorem u_I0 {g : Int → Int → V} {i j : Int} (q : Q (g i j) H) : rI0 g (.int i) (.int j) H Q := ⟨i, j, rfl, rfl, q⟩
theorem u_I {C : Int → Int → Prop} {g : Int → Int → V} {i j : Int} (c : C i j) (q : Q (g i j) H) : rI C g (.int i) (.int j) H Q := ⟨i, j, rfl, rfl, c, q⟩
theorem u_U {g : Int → V} {i : Int} (q : Q (g i) H) : rU g (.int i) H Q := ⟨i, rfl, q⟩
theorem u_cb {r : List V → Hp → VK → Prop} (h : t σ H fun vs H1 => r vs H1 Q) : tCB r t σ H Q := h
theorem u_nil {Q : List V → Hp → Prop} (q : Q [] H) : tNil σ H Q := q
theorem u_cons {Q : List V → Hp → Prop} {tr : TA} (h : ta σ H fun x H1 => tr σ H1 fun xs H2 => Q (x :: xs) H2) : tCons ta tr σ H Q := h
theorem u_call {sp : Sp} (h : t σ H fun vs H1 => sp (vs ++ []) H1 Q E) : tCall sp [] E t σ H Q := h
theorem u_eq {x y : V} (h : scal x y = true) (q : Q (.bl (decide (x = y))) H) : rEq x y H Q := ⟨h, q⟩
theorem u_ne {x y : V} (h : scal x y = true) (q : Q (.bl (!decide (x = y))) H) : rNe x y H Q := ⟨h, q⟩
theorem dI {i j : Int} : decide (V.int i = V.int j) = decide (i = j) := by
  by_cases h : i = j <;> simp [h]
theorem dB {i j : Bool} : decide (V.bl i = V.bl j) = decide (i = j) := by
  by_cases h : i = j <;> simp [h]
theorem dS {i j : Str} : decide (V.str i = V.str j) = decide (i = j) := by
  by_cases h : i = j <;> simp [h]
theorem u_eqI {i j : Int} (q : Q (.bl (decide (i = j))) H) : rEq (.int i) (.int j) H Q := ⟨rfl, by rw [dI]; exact q⟩
theorem u_neI {i j : Int} (q : Q (.bl (!decide (i = j))) H) : rNe (.int i) (.int j) H Q := ⟨rfl, by rw [dI]; exact q⟩
theorem u_eqB {i j : Bool} (q : Q (.bl (decide (i = j))) H) : rEq (.bl i) (.bl j) H Q := ⟨rfl, by rw [dB]; exact q⟩
theorem u_eqS {i j : Str} (q : Q (.bl (decide (i = j))) H) : rEq (.str i) (.str j) H Q := ⟨rfl, by rw [dS]; exact q⟩
theorem u_neS {i j : Str} (q : Q (.bl (!decide (i = j))) H) : rNe (.str i) (.str j) H Q := ⟨rfl, by rw [dS]; exact q⟩

/-! tests -/
def Br (b : Bool) (A B : Hp → Prop) (H : Hp) : Prop := if b = true then A H else B H
def TB (x : V) (Q : Bool → Hp → Prop) (H : Hp) : Prop := ∃ k, x = .bl k ∧ Q k H
theorem u_tb {k : Bool} {Q : Bool → Hp → Prop} (q : Q k H) : TB (.bl k) Q H := ⟨k, rfl, q⟩
theorem u_test {Q : Bool → Hp → Prop} (h : te σ H fun x H' => TB x Q H') : tTest te σ H Q := h
theorem u_tB {Q : Bool → Hp → Prop} (h : te σ H fun x H' => TB x Q H') : tB te σ H Q := h
theorem u_and {a b : TT} {Q : Bool → Hp → Prop} (h : a σ H fun c H1 => Br c (fun H2 => b σ H2 Q) (fun H2 => Q false H2) H1) : tAnd a b σ H Q := h
theorem u_or {a b : TT} {Q : Bool → Hp → Prop} (h : a σ H fun c H1 => Br c (fun H2 => Q true H2) (fun H2 => b σ H2 Q) H1) : tOr a b σ H Q := h
theorem u_not {a : TT} {Q : Bool → Hp → Prop} (h : a σ H fun c H1 => Q (!c) H1) : tNot a σ H Q := h
theorem u_andV (h : ta σ H fun x H1 => TB x (fun c H2 => Br c (fun H3 => tb σ H3 Q) (fun H3 => Q (.bl false) H3) H2) H1) : tAndV ta tb σ H Q := h
theorem u_orV (h : ta σ H fun x H1 => TB x (fun c H2 => Br c (fun H3 => Q (.bl true) H3) (fun H3 => tb σ H3 Q) H2) H1) : tOrV ta tb σ H Q := h
theorem u_notV (h : ta σ H fun x H1 => TB x (fun c H2 => Q (.bl (!c)) H2) H1) : tNotV ta σ H Q := h
theorem u_ifx {c : TT} (h : c σ H fun b H1 => Br b (fun H2 => ta σ H2 Q) (fun H2 => tb σ H2 Q) H1) : tIf c ta tb σ H Q := h
theorem br_t {A B : Hp → Prop} (h : A H) : Br true A B H := h
theorem br_f {A B : Hp → Prop} (h : B H) : Br false A B H := h
theorem br_nt {A B : Hp → Prop} (h : B H) : Br (!true) A B H := h
theorem br_nf {A B : Hp → Prop} (h : A H) : Br (!false) A B H := h
theorem br_d {c : Prop} [Decidable c] {A B : Hp → Prop} (h1 : c → A H) (h2 : ¬ c → B H) : Br (decide c) A B H := by
  by_cases h : c
  · rw [decide_eq_true h]; exact h1 h
  · rw [decide_eq_false h]; exact h2 h
theorem br_n {b : Bool} {A B : Hp → Prop} (h : Br b B A H) : Br (!b) A B H := by cases b <;> exact h
theorem br_b {b : Bool} {A B : Hp → Prop} (h1 : b = true → A H) (h2 : b = false → B H) : Br b A B H := by
  cases b
  · exact h2 rfl
  · exact h1 rfl
theorem br_yes {b : Bool} {A B : Hp → Prop} (e : b = true) (h : A H) : Br b A B H := by rw [e]; exact h
theorem br_no {b : Bool} {A B : Hp → Prop} (e : b = false) (h : B H) : Br b A B H := by rw [e]; exact h

/-! statements -/
theorem u_seq {t u : TS} (h : t { D with nx := u D } σ H) : tSeq t u D σ H := h
theorem u_next (q : D.nx σ H) : tNext D σ H := q
theorem u_asg {g : TG} (h : te σ H fun x H1 => g x σ H1 D.nx) : tAsg te g D σ H := h
theorem u_drop (h : te σ H fun _ H1 => D.nx σ H1) : tDrop te D σ H := h
theorem u_ret (h : te σ H D.rt) : tRet te D σ H := h
theorem u_retN (h : D.rt .non H) : tRetN D σ H := h
theorem u_if {c : TT} {t u : TS} (h : c σ H fun b H1 => Br b (t D σ) (u D σ) H1) : tIfS c t u D σ H := h
theorem u_brk (q : D.bk σ H) : tBreak D σ H := q
theorem u_cont (q : D.ct σ H) : tCont D σ H := q
theorem u_cut {t u : TS} (Mid : L2.St → Hp → Prop) (h1 : t { D with nx := Mid } σ H) (h2 : ∀ σ' H', Mid σ' H' → u D σ' H') : C8.tCut t u D σ H := ⟨Mid, h1, h2⟩
theorem u_par {i j : Nat} {x y : V} (q : D.nx ((σ.set i (some x)).set j (some y)) H) : (∃ v w, [x, y] = [v, w] ∧ D.nx ((σ.set i (some v)).set j (some w)) H) := ⟨x, y, rfl, q⟩
theorem u_tpar {i j : Nat} (h : ta σ H fun x H1 => tb σ H1 fun y H2 => D.nx ((σ.set i (some x)).set j (some y)) H2) : tPar i j (tCons ta (tCons tb tNil)) D σ H := by
  show ta σ H fun x H1 => tb σ H1 fun y H2 => ∃ v w, [x, y] = [v, w] ∧ D.nx ((σ.set i (some v)).set j (some w)) H2
  have e : (fun (x : V) (H1 : Hp) => tb σ H1 fun y H2 => D.nx ((σ.set i (some x)).set j (some y)) H2) = fun x H1 => tb σ H1 fun y H2 => ∃ v w, [x, y] = [v, w] ∧ D.nx ((σ.set i (some v)).set j (some w)) H2 := by
    funext x H1
    congr 1
    funext y H2
    apply propext
    constructor
    · intro q; exact ⟨x, y, rfl, q⟩
    · rintro ⟨v, w, ev, q⟩
      cases ev
      exact q
  rw [← e]
  exact h
theorem g_name {i : Nat} {v : V} {Q : L2.St → Hp → Prop} (q : Q (σ.set i (some v)) H) : gName i v σ H Q := q
theorem g_nil {Q : L2.St → Hp → Prop} (q : Q σ H) : gNil [] σ H Q := ⟨rfl, q⟩
theorem g_cons {g : TG} {u : TGs} {v : V} {r : List V} {Q : L2.St → Hp → Prop} (h : g v σ H fun σ' H' => u r σ' H' Q) : gCons g u (v :: r) σ H Q := ⟨v, r, rfl, h⟩
theorem g_tup {n : Nat} {g : TGs} {a : Addr} {xs : List V} {Q : L2.St → Hp → Prop} (hs : SqT K H a xs) (hl : xs.length = n) (h : g xs σ H Q) : gTup K n g (.ref a) σ H Q := ⟨a, xs, rfl, hs, hl, h⟩
theorem g_sub {to ti : TE} {s : TSet} {v : V} {Q : L2.St → Hp → Prop} (h : to σ H fun o H1 => ti σ H1 fun i H2 => s o i v H2 fun H3 => Q σ H3) : gSub to ti s v σ H Q := h
theorem s_list {p : Addr} {xs : List V} {k : Int} {j : Nat} {v : V} {Q : Hp → Prop} (h : H p = some (.lst xs)) (e : ixN xs.length k = some j) (q : ∀ H', Kp [p] H H' → H' p = some (.lst (xs.set j v)) → Q H') : rSetL (.ref p) (.int k) v H Q :=
  ⟨p, xs, k, j, rfl, rfl, h, e, q _ Kp.mut upd_same⟩

/-! objects made -/
theorem u_tup (h : t σ H fun xs H1 => xs.length ≤ sizeLine ∧ ∀ p, H1 p = none → Q (.ref p) (upd H1 p (.tup xs))) : tTup t σ H Q := h
def NewT (xs : List V) (H : Hp) (Q : VK) : Prop := xs.length ≤ sizeLine ∧ ∀ p, H p = none → Q (.ref p) (upd H p (.tup xs))
def NewL (xs : List V) (H : Hp) (Q : VK) : Prop := xs.length ≤ sizeLine ∧ ∀ p, H p = none → Q (.ref p) (upd H p (.lst xs))
theorem u_tupN (h : t σ H fun xs H1 => NewT xs H1 Q) : tTup t σ H Q := h
theorem u_lstN (h : t σ H fun xs H1 => NewL xs H1 Q) : tLst t σ H Q := h
theorem n_tup {xs : List V} (hl : xs.length ≤ 100000) (k : ∀ p H', H p = none → Kp [] H H' → H' p = some (.tup xs) → Q (.ref p) H') : NewT xs H Q :=
  ⟨Nat.le_trans hl (by decide), fun p hp => k p _ hp (Kp.new hp) upd_same⟩
theorem n_lst {xs : List V} (hl : xs.length ≤ 100000) (k : ∀ p H', H p = none → Kp [] H H' → H' p = some (.lst xs) → Q (.ref p) H') : NewL xs H Q :=
  ⟨Nat.le_trans hl (by decide), fun p hp => k p _ hp (Kp.new hp) upd_same⟩

/-! reads -/
theorem u_ixL {p : Addr} {xs : List V} {i : Int} {v : V} (h : SqL K H p xs) (e : atI xs i = some v) (q : Q v H) : rIxL K (.ref p) (.int i) H Q := ⟨p, xs, i, v, rfl, rfl, h, e, q⟩
theorem u_ixT {p : Addr} {xs : List V} {i : Int} {v : V} (h : SqT K H p xs) (e : atI xs i = some v) (q : Q v H) : rIxT K (.ref p) (.int i) H Q := ⟨p, xs, i, v, rfl, rfl, h, e, q⟩
theorem sql {p : Addr} {xs : List V} (h : H p = some (.lst xs)) : SqL K H p xs := .inl (.inl h)
theorem sqt {p : Addr} {xs : List V} (h : H p = some (.tup xs)) : SqT K H p xs := .inl (.inl h)
theorem u_fld {f : Str} {a C dx : Addr} {fs : List (Str × V)} {v : V} (h : ta σ H fun x H1 => x = .ref a ∧ H1 a = some (.ins C dx fs) ∧ Cls K C ∧ NoAttr K C f ∧ fs.lookup f = some v ∧ Q v H1) (mono : ∀ Q1 Q2 : VK, (∀ x H', Q1 x H' → Q2 x H') → ta σ H Q1 → ta σ H Q2) : tFld K ta f σ H Q :=
  mono _ _ (fun x H' z => ⟨a, C, dx, fs, v, z⟩) h
/-- o.f, o known -/
def FldOf (K : PySem.W.Frag) (f : Str) (x : V) (H : Hp) (Q : VK) : Prop := ∃ a C dx fs v, x = .ref a ∧ H a = some (.ins C dx fs) ∧ Cls K C ∧ NoAttr K C f ∧ fs.lookup f = some v ∧ Q v H
theorem u_fldN {f : Str} (h : ta σ H fun x H1 => FldOf K f x H1 Q) : tFld K ta f σ H Q := h
theorem fld_of {f : Str} {a C dx : Addr} {fs : List (Str × V)} {v : V} (hc : Cls K C) (hn : NoAttr K C f) (h : H a = some (.ins C dx fs)) (hl : fs.lookup f = some v) (q : Q v H) : FldOf K f (.ref a) H Q := ⟨a, C, dx, fs, v, rfl, h, hc, hn, hl, q⟩

/-! built-in calls -/
def rAbs : List V → Hp → VK → Prop := fun xs H Q => ∃ i, xs = [.int i] ∧ Q (.int (if i < 0 then -i else i)) H
def rMax2 : List V → Hp → VK → Prop := fun xs H Q => ∃ i j, xs = [.int i, .int j] ∧ Q (.int (if j > i then j else i)) H
def rMin2 : List V → Hp → VK → Prop := fun xs H Q => ∃ i j, xs = [.int i, .int j] ∧ Q (.int (if j < i then j else i)) H
def rInt1 : List V → Hp → VK → Prop := fun xs H Q => (∃ i, xs = [.int i] ∧ Q (.int i) H) ∨ ∃ k, xs = [.bl k] ∧ Q (.int (if k then 1 else 0)) H
def rLenA (K : PySem.W.Frag) : List V → Hp → VK → Prop := fun xs H Q => ∃ p ys, xs = [.ref p] ∧ (SqL K H p ys ∨ SqT K H p ys) ∧ Q (.int ys.length) H
section
variable {X : Cx}
theorem c_abs : CallR X (.builtin "abs") rAbs := call_abs
theorem c_max2 (hc : X.calm = true) : CallR X (.builtin "max") rMax2 := call_max2 hc
theorem c_min2 (hc : X.calm = true) : CallR X (.builtin "min") rMin2 := call_min2 hc
theorem c_int1 : CallR X (.type "int") rInt1 := call_int1
theorem c_len : CallR X (.builtin "len") (rLenA X.K) := call_len_seq
end
theorem u_abs {i : Int} (q : Q (.int (if i < 0 then -i else i)) H) : rAbs [.int i] H Q := ⟨i, rfl, q⟩
theorem u_max2 {i j : Int} (q : Q (.int (if j > i then j else i)) H) : rMax2 [.int i, .int j] H Q := ⟨i, j, rfl, q⟩
theorem u_min2 {i j : Int} (q : Q (.int (if j < i then j else i)) H) : rMin2 [.int i, .int j] H Q := ⟨i, j, rfl, q⟩
theorem u_int1 {i : Int} (q : Q (.int i) H) : rInt1 [.int i] H Q := .inl ⟨i, rfl, q⟩
theorem u_intB {k : Bool} (q : Q (.int (if k then 1 else 0)) H) : rInt1 [.bl k] H Q := .inr ⟨k, rfl, q⟩
theorem u_lenL {p : Addr} {ys : List V} (h : SqL K H p ys) (q : Q (.int ys.length) H) : rLenA K [.ref p] H Q := ⟨p, ys, rfl, .inl h, q⟩
theorem u_lenT {p : Addr} {ys : List V} (h : SqT K H p ys) (q : Q (.int ys.length) H) : rLenA K [.ref p] H Q := ⟨p, ys, rfl, .inr h, q⟩
theorem u_gcd {a b : Int} (q : Q (.int ((Nat.gcd a.natAbs b.natAbs : Nat) : Int)) H) : rGcd [.int a, .int b] H Q := ⟨a, b, rfl, q⟩
theorem u_isi {x : V} {A B : String} {b : Bool} (ty : TyX K H x (.type A)) (hb : kitB A B = some b) (q : Q (.bl b) H) : rIsi K [x, .ty B] H Q := ⟨x, .ty B, _, _, b, rfl, .ty B, ty, kit_ty hb, q⟩
theorem kB_ii : kitB "int" "int" = some true := by decide +kernel
theorem kB_ib : kitB "int" "bool" = some false := by decide +kernel
theorem kB_bb : kitB "bool" "bool" = some true := by decide +kernel
theorem kB_bi : kitB "bool" "int" = some true := by decide +kernel
theorem kB_ss : kitB "str" "str" = some true := by decide +kernel
theorem kB_sb : kitB "str" "bool" = some false := by decide +kernel
theorem kB_si : kitB "str" "int" = some false := by decide +kernel
theorem kB_is : kitB "int" "str" = some false := by decide +kernel
theorem kB_bs : kitB "bool" "str" = some false := by decide +kernel
theorem u_isi_ii {i : Int} (q : Q (.bl true) H) : rIsi K [.int i, .ty "int"] H Q := u_isi (.base (.int i)) kB_ii q
theorem u_isi_ib {i : Int} (q : Q (.bl false) H) : rIsi K [.int i, .ty "bool"] H Q := u_isi (.base (.int i)) kB_ib q
theorem u_isi_bb {i : Bool} (q : Q (.bl true) H) : rIsi K [.bl i, .ty "bool"] H Q := u_isi (.base (.bl i)) kB_bb q

/-! loops -/
theorem w_by {c : TT} {tb : TS} (Pv : L2.St → Hp → Prop) (μ : L2.St → Hp → Nat) (h0 : Pv σ H)
    (hs : ∀ σ H, Pv σ H → c σ H fun b H1 => Br b (fun H2 => tb { D with nx := fun σ' H' => Pv σ' H' ∧ μ σ' H' < μ σ H, ct := fun σ' H' => Pv σ' H' ∧ μ σ' H' < μ σ H, bk := D.nx } σ H2) (fun H2 => D.nx σ H2) H1)
    (mono : ∀ σ H Q Q', (∀ b H1, Q b H1 → Q' b H1) → c σ H Q → c σ H Q') : tWhile c tb D σ H := while_by Pv μ h0 hs mono
theorem f_list {wi : TI} {g : TG} {tb : TS} {D : Ends} (h : wi σ H fun J H1 => ∃ W : Nat → Nat → L2.St → Hp → Prop, (∃ m, W 0 m σ H1) ∧ ∀ i m σ H, W i m σ H →
      (J.stop i H ∧ D.nx σ H) ∨ (J.go i H ∧ ∃ N : L2.St → Hp → Prop, (∀ σ' H', N σ' H' → ∃ m', m' < m ∧ W (i + 1) m' σ' H') ∧ ∀ x H', J.yld i H x H' → g x σ H' fun σ2 H2 => tb { D with nx := N, ct := N, bk := D.nx } σ2 H2)) : tFor wi g tb D σ H := h
end

/-! ## defs -/
/-- the def st stands as x -/
def Df (K : PySem.W.Frag) (mg : Str → Option Value) (x : Str) (st : Stmt) : Prop := ∃ f fd, mg x = some (.ref f) ∧ Fun K x x st f fd
theorem df_of {K : PySem.W.Frag} {h : Heap} {mg : Str → Option Value} {x : Str} {st : Stmt} {f : Addr} (X : K.In h) (G : h.Ns mainGlobals mg)
    {od an : Option Addr} {sl : Array (Option Value)} {oc kV dc pm cd ct : Value}
    (a : PySem.W.nsIn K mainGlobals x = some (some (.ref f))) (l : K.lookup f = some ⟨oc, od, .func (PySem.W.fnOf x x (defArgs st) (defBody st) (defScope st) .none kV dc pm an cd ct), sl⟩)
    (c : PySem.W.codeIn K cd x = true) (k : PySem.W.keepIn K (.ref f) = true) : Df K mg x st := ⟨f, _, PySem.W.mg_of X G a, fun_mk l c k⟩
/-- the def x keeps the promise sp -/
def Fc (P : Program) (w : World) (K : PySem.W.Frag) (mg : Str → Option Value) (base : Heap) (CX : CXT) (k : Nat) (x : Str) (ps : List Str) (sp : Sp) : Prop :=
  ∃ f fd, FnOk P w K mg base CX k f fd ps sp ∧ mg x = some (.ref f) ∧ PySem.W.keepIn K (.ref f) = true ∧ Binds K fd ps []
section
variable {P : Program} {w : World} {K : PySem.W.Frag} {mg : Str → Option Value} {base : Heap} {x : Str} {st : Stmt} {ps N : List Str} {k : Nat} {sp : Sp}
theorem fc_of (F : Df K mg x st) (S : FnScope N ps (defScope st)) (len : ∀ vs H Q E, sp vs H Q E → vs.length = ps.length)
    (hb : ∀ (kV doc pm : Value) (an : Option Addr) (cdv ct : Value) (us : List Value), us.length = ps.length → bindArgs (PySem.W.fnOf x x (defArgs st) (defBody st) (defScope st) .none kV doc pm an cdv ct) ⟨us, []⟩ = pure (ps.zip us))
    (hbody : ∀ (f : Addr) (cdv : Value) (A : Around) (outer : List Env) (s : Shared) (H : Hp) (vs : List V) (Q : VK) (E : XK), Room k (A.deeper (envOfC x (defScope st) s.heap.objs.size f cdv)) → sp vs H Q E →
      ∃ t, PSs (cxOf CX0 P w K mg base N x (defScope st) f cdv A outer s H E).nox (defBody st) t ∧ t { nx := fun _ H' => Q .non H', rt := Q } (start N vs) H) : Fc P w K mg base CX0 (k + 1) x ps sp := by
  obtain ⟨f, fd, hm, F⟩ := F
  exact ⟨f, fd, F.ok S len (hbody f), hm, F.kp, F.binds hb⟩
theorem fc_ofX (F : Df K mg x st) (S : FnScope N ps (defScope st)) (len : ∀ vs H Q E, sp vs H Q E → vs.length = ps.length)
    (hb : ∀ (kV doc pm : Value) (an : Option Addr) (cdv ct : Value) (us : List Value), us.length = ps.length → bindArgs (PySem.W.fnOf x x (defArgs st) (defBody st) (defScope st) .none kV doc pm an cdv ct) ⟨us, []⟩ = pure (ps.zip us))
    (hbody : ∀ (f : Addr) (cdv : Value) (A : Around) (outer : List Env) (s : Shared) (H : Hp) (vs : List V) (Q : VK) (E : XK), Room k (A.deeper (envOfC x (defScope st) s.heap.objs.size f cdv)) → sp vs H Q E →
      ∃ t, PSs (cxOf (L2.CX P w) P w K mg base N x (defScope st) f cdv A outer s H E) (defBody st) t ∧ t { nx := fun _ H' => Q .non H', rt := Q } (start N vs) H) : Fc P w K mg base (L2.CX P w) (k + 1) x ps sp := by
  obtain ⟨f, fd, hm, F⟩ := F
  exact ⟨f, fd, F.okX S len (hbody f), hm, F.kp, F.binds hb⟩
end
section
variable {X : Cx} {CX : CXT} {k : Nat} {x : Str} {ps : List Str} {sp : Sp} {E : XK} {p pos : Pos} {e : Expr} {es : List Expr} {t : TA}
theorem pe_fc (F : Fc X.prog X.w X.K X.mg X.base CX k x ps sp) (hx : Passes CX X E) (hr : Room k X.A) (ha : PA X (e :: es) t) (hg : Gl X x := by rfl) (hdb : (x == ("__debug__" : Str)) = false := by decide)
    (he : starEach (e :: es) X.env = (false, eval e X.env) :: starEach es X.env := by rfl) (hpl : (backTo pos (starEach es X.env)).any (·.1) = false := by rfl) : PE X (.Call (.Name x p) (e :: es) [] pos) (tCall sp [] E t) := by
  obtain ⟨f, fd, F, hm, hk, hb⟩ := F
  exact pe_call F hr hg hm hk hb .nil hx ha hdb he hpl
end
/-! ## searches -/
section
variable {M : List Addr} {H H' H0 H1 Hk : Hp} {p a b : Addr} {o u : HO}
theorem Kp.low' (k : Kp M H0 H) (k1 : Kp [p] H H1) (n : Hk p = none) (kf : Kp M H0 Hk) : Kp M H0 H1 := fun b o nb e => by
  refine k1 b o ?_ (k b o nb e)
  intro z
  have z' : b = p := by simpa using z
  have q := kf b o nb e
  rw [z', n] at q; cases q
theorem ne_new (h' : H b = none) (h : H a = some o) : a ≠ b := ne_of_none h h'
theorem ne_new' (h' : H b = none) (h : H a = some o) : b ≠ a := (ne_of_none h h').symm
theorem u_app (q : (if a = a then True else False)) : True := trivial
end
/-! ## the pool of draws -/
def Pool (H : Hp) (a : Addr) : Prop := ∃ c x n k : Int, H a = some (.lst [.int c, .int x, .int n, .int k])
theorem Pool.kp0 {H H' : Hp} {a : Addr} (k : Kp [] H H') (h : Pool H a) : Pool H' a := by
  obtain ⟨c, x, n, j, e⟩ := h
  exact ⟨c, x, n, j, k.get0 e⟩
theorem Pool.kp1 {H H' : Hp} {a p : Addr} (k : Kp [p] H H') (hn : a ≠ p) (h : Pool H a) : Pool H' a := by
  obtain ⟨c, x, n, j, e⟩ := h
  exact ⟨c, x, n, j, k.get1 hn e⟩
theorem Pool.ne {H : Hp} {a b : Addr} (h' : H b = none) (h : Pool H a) : a ≠ b := by
  obtain ⟨c, x, n, j, e⟩ := h
  exact ne_of_none e h'
/-- the script: any list of ints that no one writes -/
def Scr (K : PySem.W.Frag) (H : Hp) (a : Addr) (ns : List Int) : Prop := (∃ o, H a = some (.frz o (.lst (ns.map V.int)))) ∨ ∀ H', SqL K H' a (ns.map V.int)
theorem Scr.sq {K : PySem.W.Frag} {H : Hp} {a : Addr} {ns : List Int} (h : Scr K H a ns) : SqL K H a (ns.map V.int) := by
  rcases h with ⟨o, e⟩ | h
  · exact .inl (.inr ⟨o, e⟩)
  · exact h H
theorem Scr.kp0 {K : PySem.W.Frag} {H H' : Hp} {a : Addr} {ns : List Int} (k : Kp [] H H') (h : Scr K H a ns) : Scr K H' a ns := by
  rcases h with ⟨o, e⟩ | h
  · exact .inl ⟨o, k.get0 e⟩
  · exact .inr h
theorem Scr.kp1 {K : PySem.W.Frag} {H H' Hk : Hp} {a p : Addr} {ns : List Int} (k : Kp [p] H H') (n : Hk p = none) (hk : Scr K Hk a ns) (h : Scr K H a ns) : Scr K H' a ns := by
  rcases h with ⟨o, e⟩ | h
  · rcases hk with ⟨o', e'⟩ | hk
    · exact .inl ⟨o, k.get1 (ne_of_none e' n) e⟩
    · exact .inr hk
  · exact .inr h
theorem Scr.of {K : PySem.W.Frag} {H : Hp} {a : Addr} {ns : List Int} (hO : Only H) (h : SqL K H a (ns.map V.int)) : Scr K H a ns := by
  rcases h with (h | ⟨o, h⟩) | h
  · rcases hO a with e | ⟨o, xs, e⟩
    · rw [e] at h; cases h
    · rw [e] at h; cases h
  · exact .inl ⟨o, h⟩
  · exact .inr fun H' => .inr h
/-! ## items -/
theorem atI_int {ns : List Int} {i : Int} (h0 : 0 ≤ i) (h1 : i < ((ns.map V.int).length : Int)) : ∃ z, atI (ns.map V.int) i = some (.int z) := by
  rw [List.length_map] at h1
  have hl : i.toNat < ns.length := by omega
  obtain ⟨n, rfl⟩ : ∃ n : Nat, i = (n : Int) := ⟨i.toNat, by omega⟩
  have hn : n < ns.length := by omega
  refine ⟨ns[n], atI_nat ?_⟩
  rw [List.getElem?_map, List.getElem?_eq_getElem hn]
  rfl
theorem pow_c {i : Int} (h : i.natAbs < 2 ^ 64) {j : Int} (h0 : 0 ≤ j) (h1 : j ≤ 1000000) : CPow i j := ⟨h0, h1, h⟩
theorem item_int {ns : List Int} {i : Nat} {y : V} (h : (ns.map V.int)[i]? = some y) : ∃ z, y = V.int z := by
  rw [List.getElem?_map] at h
  cases e : ns[i]? with
  | none => rw [e] at h; cases h
  | some z => rw [e] at h; exact ⟨z, (Option.some.inj h).symm⟩
/-- a slice of a list -/
def SlLN (K : PySem.W.Frag) (a : Addr) (lo hi : Option Int) (H : Hp) (Q : VK) : Prop := ∃ xs, SqL K H a xs ∧ ∀ p, H p = none → Q (.ref p) (upd H p (.lst (cutV xs lo hi)))
theorem u_slL {K : PySem.W.Frag} {H : Hp} {Q : VK} {a : Addr} {lo hi : Option Int} {xs : List V} (h : SqL K H a xs) (k : ∀ p H', H p = none → Kp [] H H' → H' p = some (.lst (cutV xs lo hi)) → Q (.ref p) H') : rSlL K (.ref a) lo hi H Q :=
  ⟨a, xs, rfl, h, fun p hp => k p _ hp (Kp.new hp) upd_same⟩
theorem u_sl {σ : L2.St} {H : Hp} {Q : VK} {r : V → Option Int → Option Int → Hp → VK → Prop} {te : TE} {tl th : TO} (h : te σ H fun x H1 => tl σ H1 fun l H2 => th σ H2 fun u H3 => r x l u H3 Q) : tSl r te tl th σ H Q := h
theorem u_noPart {σ : L2.St} {H : Hp} {Q : Option Int → Hp → Prop} (q : Q none H) : tNoPart σ H Q := q
def IntQ (x : V) (Q : Option Int → Hp → Prop) (H : Hp) : Prop := ∃ i, x = .int i ∧ Q (some i) H
theorem u_part {σ : L2.St} {H : Hp} {Q : Option Int → Hp → Prop} {t : TE} (h : t σ H fun x H1 => IntQ x Q H1) : tPart t σ H Q := h
theorem u_intq {i : Int} {H : Hp} {Q : Option Int → Hp → Prop} (q : Q (some i) H) : IntQ (.int i) Q H := ⟨i, rfl, q⟩
theorem cutV_map {ns : List Int} {lo hi : Option Int} : ∃ ms : List Int, cutV (ns.map V.int) lo hi = ms.map V.int ∧ ms.length ≤ ns.length := by
  refine ⟨(ns.drop (HT.sIx (ns.map V.int).length 0 lo)).take (HT.sIx (ns.map V.int).length (ns.map V.int).length hi - HT.sIx (ns.map V.int).length 0 lo), ?_, ?_⟩
  · unfold cutV
    rw [List.map_take, List.map_drop]
  · rw [List.length_take, List.length_drop]; omega
/-! ## loops, once more -/
def LoopQ (J : It) (g : TG) (tb : TS) (D : Ends) (σ : L2.St) (H1 : Hp) : Prop := ∃ W : Nat → Nat → L2.St → Hp → Prop, (∃ m, W 0 m σ H1) ∧ ∀ i m σ H, W i m σ H →
  (J.stop i H ∧ D.nx σ H) ∨ (J.go i H ∧ ∃ N : L2.St → Hp → Prop, (∀ σ' H', N σ' H' → ∃ m', m' < m ∧ W (i + 1) m' σ' H') ∧ ∀ x H', J.yld i H x H' → g x σ H' fun σ2 H2 => tb { D with nx := N, ct := N, bk := D.nx } σ2 H2)
section
variable {K : PySem.W.Frag} {g : TG} {tb : TS} {D : Ends} {σ : L2.St} {H : Hp}
theorem u_for {wi : TI} (h : wi σ H fun J H1 => LoopQ J g tb D σ H1) : tFor wi g tb D σ H := h
def ItLq (K : PySem.W.Frag) (x : V) (R : It → Hp → Prop) (H : Hp) : Prop := ∃ a, x = .ref a ∧ (∃ xs, SqL K H a xs) ∧ R (Itl K a) H
def ItTq (K : PySem.W.Frag) (x : V) (R : It → Hp → Prop) (H : Hp) : Prop := ∃ a, x = .ref a ∧ (∃ xs, SqT K H a xs) ∧ R (Itt K a) H
theorem u_iL {tl : TE} {R : It → Hp → Prop} (h : tl σ H fun x H1 => ItLq K x R H1) : iList K tl σ H R := h
theorem u_iT {tl : TE} {R : It → Hp → Prop} (h : tl σ H fun x H1 => ItTq K x R H1) : iTup K tl σ H R := h
theorem u_iLq {a : Addr} {xs : List V} {R : It → Hp → Prop} (h : SqL K H a xs) (q : R (Itl K a) H) : ItLq K (.ref a) R H := ⟨a, rfl, ⟨xs, h⟩, q⟩
theorem u_iTq {a : Addr} {xs : List V} {R : It → Hp → Prop} (h : SqT K H a xs) (q : R (Itt K a) H) : ItTq K (.ref a) R H := ⟨a, rfl, ⟨xs, h⟩, q⟩
def ItR1 (vs : List V) (R : It → Hp → Prop) (H : Hp) : Prop := ∃ j : Int, vs = [.int j] ∧ -(2 ^ 62) ≤ j ∧ j < 2 ^ 62 ∧ R (Itr 0 j.toNat) H
def ItR2 (vs : List V) (R : It → Hp → Prop) (H : Hp) : Prop := ∃ i j : Int, vs = [.int i, .int j] ∧ (-(2 ^ 62) ≤ i ∧ i < 2 ^ 62 ∧ -(2 ^ 62) ≤ j ∧ j < 2 ^ 62) ∧ R (Itr i (j - i).toNat) H
theorem u_r1 {ta : TA} {R : It → Hp → Prop} (h : ta σ H fun vs H1 => ItR1 vs R H1) : iRng1 ta σ H R := h
theorem u_r2 {ta : TA} {R : It → Hp → Prop} (h : ta σ H fun vs H1 => ItR2 vs R H1) : iRng2 ta σ H R := h
theorem u_r1q {j : Int} {R : It → Hp → Prop} (h : -(2 ^ 62) ≤ j ∧ j < 2 ^ 62) (q : R (Itr 0 j.toNat) H) : ItR1 [.int j] R H := ⟨j, rfl, h.1, h.2, q⟩
theorem u_r2q {i j : Int} {R : It → Hp → Prop} (h : -(2 ^ 62) ≤ i ∧ i < 2 ^ 62 ∧ -(2 ^ 62) ≤ j ∧ j < 2 ^ 62) (q : R (Itr i (j - i).toNat) H) : ItR2 [.int i, .int j] R H := ⟨i, j, rfl, h, q⟩
theorem l_list {a : Addr} (xs : List V) (Pv : Nat → L2.St → Hp → Prop) (h0 : Pv 0 σ H) (hl : ∀ i σ H, i ≤ xs.length → Pv i σ H → SqL K H a xs)
    (hs : ∀ i x σ H, xs[i]? = some x → Pv i σ H → g x σ H fun σ2 H2 => tb { D with nx := Pv (i + 1), ct := Pv (i + 1), bk := D.nx } σ2 H2) (hd : ∀ σ H, Pv xs.length σ H → D.nx σ H) : LoopQ (Itl K a) g tb D σ H := for_list Pv h0 hl hs hd
theorem l_tup {a : Addr} (xs : List V) (Pv : Nat → L2.St → Hp → Prop) (h0 : Pv 0 σ H) (hl : ∀ i σ H, i ≤ xs.length → Pv i σ H → SqT K H a xs)
    (hs : ∀ i x σ H, xs[i]? = some x → Pv i σ H → g x σ H fun σ2 H2 => tb { D with nx := Pv (i + 1), ct := Pv (i + 1), bk := D.nx } σ2 H2) (hd : ∀ σ H, Pv xs.length σ H → D.nx σ H) : LoopQ (Itt K a) g tb D σ H := for_tup Pv h0 hl hs hd
theorem l_range {lo : Int} {n : Nat} (Pv : Nat → L2.St → Hp → Prop) (h0 : Pv 0 σ H)
    (hs : ∀ i σ H, i < n → Pv i σ H → g (.int (lo + i)) σ H fun σ2 H2 => tb { D with nx := Pv (i + 1), ct := Pv (i + 1), bk := D.nx } σ2 H2) (hd : ∀ σ H, Pv n σ H → D.nx σ H) : LoopQ (Itr lo n) g tb D σ H := for_range Pv h0 hs hd
end
/-! ## what the operators ask of numbers -/
theorem two64 : (2 : Int) ^ 64 = 18446744073709551616 := by decide +kernel
theorem cmul_of {i j : Int} (h : (-18446744073709551616 < i ∧ i < 18446744073709551616) ∨ (-18446744073709551616 < j ∧ j < 18446744073709551616)) : CMul i j := by
  unfold CMul
  rw [two64]
  exact h
theorem cpow_of {i j : Int} (h : 0 ≤ j ∧ j ≤ 1000000 ∧ -18446744073709551616 < i ∧ i < 18446744073709551616) : CPow i j := by
  refine ⟨h.1, h.2.1, ?_⟩
  have e : (2 : Nat) ^ 64 = 18446744073709551616 := by decide +kernel
  rw [e]
  omega
theorem cdivw_of {i j : Int} (h : 0 < j ∧ j < 18446744073709551616) : CDivW i j := by
  refine wide_div (b := 64) h.1 ?_ (by decide) (by decide)
  have e : (2 : Nat) ^ 64 = 18446744073709551616 := by decide +kernel
  rw [e]
  omega
/-! ## the built-in names -/
theorem b_len : bootBuiltins "len" = some (.builtin "len") := by decide +kernel
theorem b_abs : bootBuiltins "abs" = some (.builtin "abs") := by decide +kernel
theorem b_max : bootBuiltins "max" = some (.builtin "max") := by decide +kernel
theorem b_min : bootBuiltins "min" = some (.builtin "min") := by decide +kernel
theorem b_isinstance : bootBuiltins "isinstance" = some (.builtin "isinstance") := by decide +kernel
theorem b_sum : bootBuiltins "sum" = some (.builtin "sum") := by decide +kernel
theorem b_sorted : bootBuiltins "sorted" = some (.builtin "sorted") := by decide +kernel
theorem b_any : bootBuiltins "any" = some (.builtin "any") := by decide +kernel
theorem b_all : bootBuiltins "all" = some (.builtin "all") := by decide +kernel
theorem b_divmod : bootBuiltins "divmod" = some (.builtin "divmod") := by decide +kernel
theorem b_ord : bootBuiltins "ord" = some (.builtin "ord") := by decide +kernel
theorem b_chr : bootBuiltins "chr" = some (.builtin "chr") := by decide +kernel
theorem b_pow : bootBuiltins "pow" = some (.builtin "pow") := by decide +kernel
theorem b_hash : bootBuiltins "hash" = some (.builtin "hash") := by decide +kernel
theorem b_repr : bootBuiltins "repr" = some (.builtin "repr") := by decide +kernel
theorem b_next : bootBuiltins "next" = some (.builtin "next") := by decide +kernel
theorem b_iter : bootBuiltins "iter" = some (.builtin "iter") := by decide +kernel
theorem b_int : bootBuiltins "int" = some (.type "int") := by decide +kernel
theorem b_str : bootBuiltins "str" = some (.type "str") := by decide +kernel
theorem b_bool : bootBuiltins "bool" = some (.type "bool") := by decide +kernel
theorem b_list : bootBuiltins "list" = some (.type "list") := by decide +kernel
theorem b_tuple : bootBuiltins "tuple" = some (.type "tuple") := by decide +kernel
theorem b_dict : bootBuiltins "dict" = some (.type "dict") := by decide +kernel
theorem b_set : bootBuiltins "set" = some (.type "set") := by decide +kernel
theorem b_range : bootBuiltins "range" = some (.type "range") := by decide +kernel
theorem b_enumerate : bootBuiltins "enumerate" = some (.type "enumerate") := by decide +kernel
theorem b_reversed : bootBuiltins "reversed" = some (.type "reversed") := by decide +kernel
theorem b_zip : bootBuiltins "zip" = some (.type "zip") := by decide +kernel
theorem b_type : bootBuiltins "type" = some (.type "type") := by decide +kernel
theorem b_ValueError : bootBuiltins "ValueError" = some (.type "ValueError") := by decide +kernel
theorem b_map : bootBuiltins "map" = some (.type "map") := by decide +kernel
theorem b_filter : bootBuiltins "filter" = some (.type "filter") := by decide +kernel
theorem b_frozenset : bootBuiltins "frozenset" = some (.type "frozenset") := by decide +kernel
theorem cdivw_big {i j : Int} (h : 0 < j ∧ j ≤ 10000000000000000000000000000000000000000000000000000000000000000000000) : CDivW i j := by
  refine wide_div (b := 256) h.1 ?_ (by decide) (by decide)
  have e : (2 : Nat) ^ 256 = 115792089237316195423570985008687907853269984665640564039457584007913129639936 := by decide +kernel
  rw [e]
  omega
/-- a power of two written numbers -/
theorem u_pow {i j v : Int} {H : Hp} {Q : VK} (c : CPow i j) (e : i ^ j.toNat = v) (q : Q (.int v) H) : rI CPow (fun i j => V.int (i ^ j.toNat)) (.int i) (.int j) H Q := ⟨i, j, rfl, rfl, c, by show Q (.int (i ^ j.toNat)) H; rw [e]; exact q⟩
/-! ## new instances, at the slots -/
def NewI (C : Addr) (sp : Sp) (vs : List V) (H : Hp) (Q : VK) (E : XK) : Prop :=
  ∀ x dx, H x = none → H dx = none → dx ≠ x → sp (.ref x :: vs) (upd (upd H dx (.own x)) x (.ins C dx [])) (fun v H2 => v = .non ∧ Q (.ref x) H2) E
def tNew (C : Addr) (sp : Sp) (dvs : List V) (E : L2.St → XK) (t : TA) : TE := fun σ H Q => t σ H fun vs H1 => NewI C sp (vs ++ dvs) H1 Q (E σ)
def tNewK (C : Addr) (n m : Nat) (sp : Sp) (g : List V → List V → List V) (E : L2.St → XK) (t tk : TA) : TE := fun σ H Q => t σ H fun vs H1 => tk σ H1 fun zs H2 => vs.length = n ∧ zs.length = m ∧ NewI C sp (g vs zs) H2 Q (E σ)
theorem passAll {X : Cx} {CX : CXT} {E : XK} (h : Passes CX X E) (σ : L2.St) : PassesAt CX X σ E := fun pins H s e s' I c => h pins σ H s e s' I c
section
variable {X : Cx} {CX : CXT} {k : Nat} {f C : Addr} {fd : FuncData} {ps : List Str} {sp : Sp}
theorem run_new {pins : List (Addr × Obj)} {σ : L2.St} {H : Hp} {s : Shared} {Q : VK} {E : XK} {us : List Value} {kw : List (Str × Value)} {vs : List V} (mk : Mk X.K C f) (ok : FnOk X.prog X.w X.K X.mg X.base CX k f fd ps sp) (room : Room (k + 1) X.A)
    (pass : PassesAt CX X σ E) (inv : Inv X pins σ H s)
    (bind : ∀ (x : Addr) (z : Shared), X.K.In z.heap → (V.ref x :: vs).length = ps.length → ∃ ws, BindsTo z fd ⟨Value.ref x :: us, kw⟩ (ps.zip ws) ∧ Vals (V.ref x :: vs) ws)
    (go : NewI C sp vs H Q E) : wpAny (model X.prog X.w) X.A (call (.ref C) us kw) (EP X pins σ Q) X.xe s := by
  obtain ⟨n, hn⟩ : ∃ n, n = s.heap.objs.size := ⟨_, rfl⟩
  have made := Inv.made (C := C) inv
  rw [← hn] at made
  have asked := go (n + 1) n (inv.hok.fresh (hn ▸ Nat.le_succ _)) (inv.hok.fresh (hn ▸ Nat.le_refl _)) (Nat.ne_of_lt (Nat.lt_succ_self n))
  obtain ⟨ws, bound, same⟩ := bind (n + 1) _ made.kIn (ok.len _ _ _ _ asked)
  refine wpAny_call ?_
  refine make_map (f := f) inv.kIn mk.makes mk.init (beq_iff_eq.mp mk.fn) ?_
  rw [← hn]
  refine codeAny_mono (ok.run (X.A.under (.builtin "type.__call__" ⟨.ref C :: us, kw⟩)) X.stack _ _ _ ws _ _ E (room.make C us kw) (made.env0.make C us kw) bound same asked) fun r s2 out => ?_
  match r, out with
  | .error e, out => exact pass pins _ _ e s2 made out
  | .ok (.ret u), out =>
    obtain ⟨v, H3, J, rel, isn, rest⟩ := made.after out
    subst isn
    exact ⟨rel, .ref (n + 1), H3, J, rfl, rest⟩
  | .ok .next, out => exact out.elim
  | .ok .brk, out => exact out.elim
  | .ok .cont, out => exact out.elim
variable {x : Str} {p pos : Pos} {e : Expr} {es : List Expr} {t tk : TA} {dvs : List V} {ds : List Value} {E : L2.St → XK} {kws : List Keyword} {ks : List Str} {n : Nat} {g : List Value → List Value → List Value} {gV : List V → List V → List V}
theorem pe_new (mk : Mk X.K C f) (ok : FnOk X.prog X.w X.K X.mg X.base CX k f fd ps sp) (pass : ∀ σ, PassesAt CX X σ (E σ)) (room : Room (k + 1) X.A) (named : X.mg x = some (.ref C)) (bind : Binds X.K fd ps ds) (dflt : Vals dvs ds)
    (ha : PA X (e :: es) t) (hg : Gl X x := by rfl) (hdb : (x == ("__debug__" : Str)) = false := by decide)
    (he : starEach (e :: es) X.env = (false, eval e X.env) :: starEach es X.env := by rfl) (hpl : (backTo pos (starEach es X.env)).any (·.1) = false := by rfl) :
    PE X (.Call (.Name x p) (e :: es) [] pos) (tNew C sp dvs E t) := by
  constructor
  intro pins s σ H Q inv asked
  apply wpAny_Call_Name_kw
  refine ld_glob inv hg named ?_ hdb
  refine PySem.W.callWith_K (h₀ := X.base) inv.ok.mod.kin mk.kp ?_ he hpl
  refine thn (ha.run pos pins s σ H _ inv asked) fun us s2 out => ?_
  obtain ⟨vs, H2, inv2, rel, go⟩ := out
  refine ⟨inv2.kIn, run_new mk ok room (pass σ) inv2 (fun a z hz hl => ?_) go⟩
  have all : Vals (V.ref a :: (vs ++ dvs)) (Value.ref a :: (us ++ ds)) := .cons rfl (rel.append dflt)
  exact ⟨_, bind z (Value.ref a :: us) hz (all.length.symm.trans hl), all⟩
theorem pe_newK (mk : Mk X.K C f) (ok : FnOk X.prog X.w X.K X.mg X.base CX k f fd ps sp) (pass : ∀ σ, PassesAt CX X σ (E σ)) (room : Room (k + 1) X.A) (named : X.mg x = some (.ref C)) (bind : KBn X.K fd ps (n + 1) ks g gV)
    (ha : PA X (e :: es) t) (hkw : PK X kws tk) (hg : Gl X x := by rfl) (hall : (backToKw pos (keywordEach kws X.env)).all (·.1.isSome) = true := by rfl) (hks : (backToKw pos (keywordEach kws X.env)).filterMap (·.1) = ks := by rfl)
    (hdb : (x == ("__debug__" : Str)) = false := by decide) (he : starEach (e :: es) X.env = (false, eval e X.env) :: starEach es X.env := by rfl)
    (hpl : ((backTo pos (starEach (e :: es) X.env)).any (·.1) || (backToKw pos (keywordEach kws X.env)).any (·.1.isNone)) = false := by rfl) (hgv : ∀ a vs zs, gV (V.ref a :: vs) zs = V.ref a :: gV vs zs) :
    PE X (.Call (.Name x p) (e :: es) kws pos) (tNewK C n ks.length sp gV E t tk) := by
  constructor
  intro pins s σ H Q inv asked
  apply wpAny_Call_Name_kw
  refine ld_glob inv hg named ?_ hdb
  refine PySem.W.callWith_KW (h₀ := X.base) inv.ok.mod.kin mk.kp hall ?_ hpl he
  refine thn (ha.run pos pins s σ H _ inv asked) fun us s2 out => ?_
  obtain ⟨vs, H2, inv2, rel, asked2⟩ := out
  refine thn (hkw.run pos pins s2 σ H2 _ inv2 asked2) fun ws s3 out3 => ?_
  obtain ⟨zs, H3, inv3, rel3, l1, l2, go⟩ := out3
  refine ⟨inv3.kIn, ?_⟩
  rw [hks]
  refine run_new mk ok room (pass σ) inv3 (fun a z hz hl => ?_) go
  have all : Vals (V.ref a :: vs) (Value.ref a :: us) := .cons rfl rel
  refine ⟨_, bind.to z (Value.ref a :: us) ws hz (all.length.symm.trans (congrArg Nat.succ l1)) (rel3.length.symm.trans l2), ?_⟩
  rw [← hgv]
  exact bind.rel all rel3
end
theorem u_newI {C : Addr} {sp : Sp} {dvs : List V} {E : L2.St → XK} {t : TA} {σ : L2.St} {H : Hp} {Q : VK} (h : t σ H fun vs H1 => NewI C sp (vs ++ dvs) H1 Q (E σ)) : tNew C sp dvs E t σ H Q := h
def NewK (C : Addr) (n m : Nat) (sp : Sp) (g : List V → List V → List V) (vs zs : List V) (H : Hp) (Q : VK) (E : XK) : Prop := vs.length = n ∧ zs.length = m ∧ NewI C sp (g vs zs) H Q E
theorem u_newK {C : Addr} {n m : Nat} {sp : Sp} {g : List V → List V → List V} {E : L2.St → XK} {t tk : TA} {σ : L2.St} {H : Hp} {Q : VK} (h : t σ H fun vs H1 => tk σ H1 fun zs H2 => NewK C n m sp g vs zs H2 Q (E σ)) : tNewK C n m sp g E t tk σ H Q := h
theorem newK {C : Addr} {n m : Nat} {sp : Sp} {g : List V → List V → List V} {vs zs : List V} {H : Hp} {Q : VK} {E : XK} (h1 : vs.length = n) (h2 : zs.length = m) (h : NewI C sp (g vs zs) H Q E) : NewK C n m sp g vs zs H Q E := ⟨h1, h2, h⟩
/-- a new instance: what was there stands -/
theorem Kp.inst {H H1 : Hp} {x dx C : Addr} {M : List Addr} (nx : H x = none) (nd : H dx = none) (k : Kp [x] (upd (upd H dx (.own x)) x (.ins C dx [])) H1) : Kp M H H1 := fun b o _ e =>
  k b o (by simpa using ne_of_none e nx) (by rw [upd_ne (ne_of_none e nx), upd_ne (ne_of_none e nd)]; exact e)
/-! ## stores into fields -/
def SFq (K : PySem.W.Frag) (f : Str) (x y : V) (H : Hp) (Q : Hp → Prop) : Prop := ∃ a C dx fs, x = .ref a ∧ H a = some (.ins C dx fs) ∧ Cls K C ∧ NoAttr K C f ∧ fs.length < 1000 ∧ Q (upd H a (.ins C dx (putF f y fs)))
theorem u_sfld {K : PySem.W.Frag} {ta tv : TE} {f : Str} {D : Ends} {σ : L2.St} {H : Hp} (h : tv σ H fun y H1 => ta σ H1 fun x H2 => SFq K f x y H2 (D.nx σ)) : sFld K ta tv f D σ H := h
theorem sf_of {K : PySem.W.Frag} {f : Str} {a C dx : Addr} {fs : List (Str × V)} {y : V} {H : Hp} {Q : Hp → Prop} (hc : Cls K C) (hn : NoAttr K C f) (h : H a = some (.ins C dx fs)) (hl : fs.length < 1000)
    (q : ∀ H', Kp [a] H H' → H' a = some (.ins C dx (putF f y fs)) → Q H') : SFq K f (.ref a) y H Q := ⟨a, C, dx, fs, rfl, h, hc, hn, hl, q _ Kp.mut upd_same⟩
/-! ## operators of own classes -/
section
variable {X : Cx} {CX : CXT} {k : Nat} {f C : Addr} {fd : FuncData} {ps : List Str} {sp : Sp} {E : XK}
theorem back_of {pins : List (Addr × Obj)} {σ : L2.St} {Q : VK} {r : Value} {s : Shared} (h : EP X pins σ Q r s) : PySem.W.CmpBack (EP X pins σ Q) r s := by
  obtain ⟨v, H, inv, rel, q⟩ := h
  cases v with
  | non => cases (show r = .none from rel); exact ⟨.non, H, inv, rel, q⟩
  | bl b => cases (show r = .bool b from rel); exact ⟨.bl b, H, inv, rel, q⟩
  | int i => obtain ⟨t, e⟩ := (show ∃ t, r = .int i t from rel); subst e; exact ⟨.int i, H, inv, rel, q⟩
  | str i => obtain ⟨t, e⟩ := (show ∃ t, r = .str i t from rel); subst e; exact ⟨.str i, H, inv, rel, q⟩
  | byt i => obtain ⟨t, e⟩ := (show ∃ t, r = .bytes i t from rel); subst e; exact ⟨.byt i, H, inv, rel, q⟩
  | flt i => obtain ⟨t, e⟩ := (show ∃ t, r = .float i t from rel); subst e; exact ⟨.flt i, H, inv, rel, q⟩
  | ref a => cases (show r = .ref a from rel); exact ⟨.ref a, H, inv, rel, q⟩
  | ty n => cases (show r = .type n from rel); exact ⟨.ty n, H, inv, rel, q⟩
/-- a op b, two instances of the class at C -/
def rOwn (C : Addr) (sp : Sp) (E : XK) : R2 := fun x y H Q => ∃ a b dx dy fs gs, x = .ref a ∧ y = .ref b ∧ H a = some (.ins C dx fs) ∧ H b = some (.ins C dy gs) ∧ sp [x, y] H Q E
theorem op_own {op : Operator} (ok : FnOk X.prog X.w X.K X.mg X.base CX k f fd ps sp) (first : PySem.W.selfFirst X.K C = true) (found : PySem.W.findIn X.K (.ref C) (PySem.dunder op.info.2) = some (some (.ref f))) (isf : PySem.W.isFn X.K (.ref f) = true)
    (bind : Binds X.K fd ps []) (pass : Passes CX X E) (room : Room k X.A) : OpR X (binaryOp op) (rOwn C sp E) := by
  intro pins s σ H x y v u Q inv rx ry asked
  obtain ⟨a, b, dx, dy, fs, gs, rfl, rfl, ha, hb, go⟩ := asked
  cases rx
  cases ry
  obtain ⟨_, J, _⟩ := ins_get inv.hok ha
  obtain ⟨_, J2, _⟩ := ins_get inv.hok hb
  obtain ⟨_, J, _⟩ := J.look
  obtain ⟨_, J2, _⟩ := J2.look
  obtain ⟨_, fr⟩ := inv.fr
  refine PySem.W.binop_K fr inv.ok.mod.kin J J2.type first found isf ?_
  exact wpAny_mono (run_fn (vs := [.ref a, .ref b]) (us := [.ref a, .ref b]) ok room bind .nil pass inv (.cons rfl (.cons rfl .nil)) go) (fun r s2 q => back_of q) fun _ _ z => z
/-- a == y, a an instance of the class at C, y of the type t -/
def rEqOwn (K : PySem.W.Frag) (C : Addr) (sp : Sp) (E : XK) : R2 := fun x y H Q => ∃ a dx fs t, x = .ref a ∧ H a = some (.ins C dx fs) ∧ TyX K H y t ∧ PySem.W.notFirst K C t = true ∧ sp [x, y] H Q E
theorem op_eqOwn (ok : FnOk X.prog X.w X.K X.mg X.base CX k f fd ps sp) (found : PySem.W.findIn X.K (.ref C) "__eq__" = some (some (.ref f))) (isf : PySem.W.isFn X.K (.ref f) = true)
    (bind : Binds X.K fd ps []) (pass : Passes CX X E) (room : Room k X.A) : OpR X (compareOp .Eq) (rEqOwn X.K C sp E) := by
  intro pins s σ H x y v u Q inv rx ry asked
  obtain ⟨a, dx, fs, t, rfl, ha, ty, nf, go⟩ := asked
  cases rx
  obtain ⟨_, J, _⟩ := ins_get inv.hok ha
  obtain ⟨_, J, _⟩ := J.look
  obtain ⟨_, fr⟩ := inv.fr
  obtain ⟨Z, kit, hz, _⟩ := kit_of inv ry ty
  show wpAny (model X.prog X.w) X.A (richCompare .Eq (.ref a) u) (EP X pins σ Q) X.xe s
  refine PySem.W.cmp_K (op := .Eq) (tb := t) room.units0 fr inv.ok.mod.kin J (kit.ty _ _ inv.kIn hz) nf found isf ?_
  exact wpAny_mono (run_fn (vs := [.ref a, y]) (us := [.ref a, u]) ok room bind .nil pass inv (.cons rfl (.cons ry .nil)) go) (fun r s2 q => back_of q) fun _ _ z => z
end
/-! ## what a caught error is -/
def rIsE2 (K : PySem.W.Frag) (cls : Value) (d : Option Addr) (a : Addr) : List V → Hp → VK → Prop := fun xs H Q => ∃ (D : Addr) (c : V) (cv : Value) (b : Bool), cls = .ref D ∧ d = none ∧ ExcC K D ∧ xs = [.ref a, c] ∧ ClsV c cv ∧ PySem.W.kitOne K (.ref D) cv = some b ∧ Q (.bl b) H
def rIsET (K : PySem.W.Frag) (cls : Value) (d : Option Addr) (a : Addr) : List V → Hp → VK → Prop := fun xs H Q => ∃ (D tp : Addr) (cs : List V) (us : List Value) (b : Bool), cls = .ref D ∧ d = none ∧ ExcC K D ∧ xs = [.ref a, .ref tp] ∧ H tp = some (.tup cs) ∧ Paired ClsV cs us ∧ PySem.W.kitAny K (.ref D) us = some b ∧ Q (.bl b) H
section
variable {X : Cx} {a : Addr} {oe : Obj} {cls : Value} {d : Option Addr} {pn : List (Addr × Obj)}
theorem c_isE (hz : Zc cls d oe) (hf : ∃ vs, oe.data = .fields vs) : CallR (X.suite a ((a, oe) :: pn)) (.builtin "isinstance") (rIsE2 X.K cls d a) := by
  intro pins s σ H xs us Q inv rel asked
  obtain ⟨D, c, cv, b, rfl, rfl, C, rfl, kc, e, q⟩ := asked
  exact call_isE C hz hf pins s σ H _ us Q inv rel ⟨c, cv, b, rfl, fun u r => kc.eq r, e, q⟩
theorem c_isET (hz : Zc cls d oe) (hf : ∃ vs, oe.data = .fields vs) : CallR (X.suite a ((a, oe) :: pn)) (.builtin "isinstance") (rIsET X.K cls d a) := by
  intro pins s σ H xs us Q inv rel asked
  obtain ⟨D, tp, cs, ws, b, rfl, rfl, C, rfl, hT, kc, e, q⟩ := asked
  obtain ⟨u1, u2, rfl, r1, r2⟩ := vals2 rel
  cases (show u1 = Value.ref a from r1)
  cases (show u2 = Value.ref tp from r2)
  obtain ⟨got, _⟩ := inv.pin (a, oe) (List.mem_append.mpr (.inl List.mem_cons_self))
  obtain ⟨_, its, rv, o, h1, h2, n, h3⟩ := (show ObjOk X.prog X.w H s.heap tp (.tup cs) from inv.hok tp _ hT)
  have same := ClsV.all kc rv
  subst same
  obtain ⟨oc, od, dt, sl⟩ := o
  dsimp only at h2 h3
  subst h2 h3
  obtain ⟨vs, hv⟩ := hf
  have J : PySem.W.InstAt s.heap a oe D none := by
    cases oe
    cases hz.1
    cases hz.2
    dsimp only at hv
    subst hv
    exact ⟨got, rfl, rfl, trivial⟩
  exact PySem.W.kia_tup (PySem.W.handS_kitx_exc C.hg C.hk C.hs C.hd C.ha C.hn C.ht C.hm) inv.kIn J h1 e (fun z => nomatch z) fun tk => ⟨.bl b, H, inv.kept (t' := tk) fun _ _ z => z, rfl, q⟩
end
/-! ## methods, classes -/
def Dm (K : PySem.W.Frag) (C : Addr) (m qual : Str) (st : Stmt) : Prop := ∃ f fd, PySem.W.findIn K (.ref C) m = some (some (.ref f)) ∧ PySem.W.isFn K (.ref f) = true ∧ Fun K m qual st f fd
theorem dm_of {K : PySem.W.Frag} {C f : Addr} {m qual : Str} {st : Stmt} {od an : Option Addr} {sl : Array (Option Value)} {oc kV dc pm cd ct : Value}
    (a : PySem.W.findIn K (.ref C) m = some (some (.ref f))) (i : PySem.W.isFn K (.ref f) = true) (l : K.lookup f = some ⟨oc, od, .func (PySem.W.fnOf m qual (defArgs st) (defBody st) (defScope st) .none kV dc pm an cd ct), sl⟩)
    (c : PySem.W.codeIn K cd qual = true) (k : PySem.W.keepIn K (.ref f) = true) : Dm K C m qual st := ⟨f, _, a, i, fun_mk l c k⟩
def Mc (P : Program) (w : World) (K : PySem.W.Frag) (mg : Str → Option Value) (base : Heap) (CX : CXT) (k : Nat) (C : Addr) (m : Str) (ps : List Str) (sp : Sp) : Prop :=
  ∃ f fd, FnOk P w K mg base CX k f fd ps sp ∧ PySem.W.findIn K (.ref C) m = some (some (.ref f)) ∧ PySem.W.isFn K (.ref f) = true ∧ PySem.W.keepIn K (.ref f) = true ∧ Binds K fd ps []
section
variable {P : Program} {w : World} {K : PySem.W.Frag} {mg : Str → Option Value} {base : Heap} {m qual : Str} {st : Stmt} {ps N : List Str} {k : Nat} {sp : Sp} {C : Addr}
theorem mc_of (F : Dm K C m qual st) (S : FnScope N ps (defScope st)) (len : ∀ vs H Q E, sp vs H Q E → vs.length = ps.length)
    (hb : ∀ (kV doc pm : Value) (an : Option Addr) (cdv ct : Value) (us : List Value), us.length = ps.length → bindArgs (PySem.W.fnOf m qual (defArgs st) (defBody st) (defScope st) .none kV doc pm an cdv ct) ⟨us, []⟩ = pure (ps.zip us))
    (hbody : ∀ (f : Addr) (cdv : Value) (A : Around) (outer : List Env) (s : Shared) (H : Hp) (vs : List V) (Q : VK) (E : XK), Room k (A.deeper (envOfC qual (defScope st) s.heap.objs.size f cdv)) → sp vs H Q E →
      ∃ t, PSs (cxOf CX0 P w K mg base N qual (defScope st) f cdv A outer s H E).nox (defBody st) t ∧ t { nx := fun _ H' => Q .non H', rt := Q } (start N vs) H) : Mc P w K mg base CX0 (k + 1) C m ps sp := by
  obtain ⟨f, fd, hm, hi, F⟩ := F
  exact ⟨f, fd, F.ok S len (hbody f), hm, hi, F.kp, F.binds hb⟩
theorem mc_ofX (F : Dm K C m qual st) (S : FnScope N ps (defScope st)) (len : ∀ vs H Q E, sp vs H Q E → vs.length = ps.length)
    (hb : ∀ (kV doc pm : Value) (an : Option Addr) (cdv ct : Value) (us : List Value), us.length = ps.length → bindArgs (PySem.W.fnOf m qual (defArgs st) (defBody st) (defScope st) .none kV doc pm an cdv ct) ⟨us, []⟩ = pure (ps.zip us))
    (hbody : ∀ (f : Addr) (cdv : Value) (A : Around) (outer : List Env) (s : Shared) (H : Hp) (vs : List V) (Q : VK) (E : XK), Room k (A.deeper (envOfC qual (defScope st) s.heap.objs.size f cdv)) → sp vs H Q E →
      ∃ t, PSs (cxOf (L2.CX P w) P w K mg base N qual (defScope st) f cdv A outer s H E) (defBody st) t ∧ t { nx := fun _ H' => Q .non H', rt := Q } (start N vs) H) : Mc P w K mg base (L2.CX P w) (k + 1) C m ps sp := by
  obtain ⟨f, fd, hm, hi, F⟩ := F
  exact ⟨f, fd, F.okX S len (hbody f), hm, hi, F.kp, F.binds hb⟩
end
section
variable {X : Cx} {CX : CXT} {k : Nat} {C : Addr} {m : Str} {ps : List Str} {sp : Sp} {E : XK}
theorem op_mc {op : Operator} (F : Mc X.prog X.w X.K X.mg X.base CX k C (PySem.dunder op.info.2) ps sp) (first : PySem.W.selfFirst X.K C = true) (pass : Passes CX X E) (room : Room k X.A) : OpR X (binaryOp op) (rOwn C sp E) := by
  obtain ⟨f, fd, ok, a, i, _, b⟩ := F
  exact op_own ok first a i b pass room
theorem op_mcEq (F : Mc X.prog X.w X.K X.mg X.base CX k C "__eq__" ps sp) (pass : Passes CX X E) (room : Room k X.A) : OpR X (compareOp .Eq) (rEqOwn X.K C sp E) := by
  obtain ⟨f, fd, ok, a, i, _, b⟩ := F
  exact op_eqOwn ok a i b pass room
end
/-- an own error class, as it stands -/
structure ErrC (K : PySem.W.Frag) (mg : Str → Option Value) (x : Str) (C : Addr) : Prop where
  g : mg x = some (.ref C)
  k : PySem.W.keepIn K (.ref C) = true
  b : PySem.W.subIn K (.ref C) (.type "BaseException") = some true
  t : PySem.W.typeIn K (.ref C) = some (.type "type")
  e : ExcC K C
theorem ErrC.exm {K : PySem.W.Frag} {mg : Str → Option Value} {x : Str} {C : Addr} {cls : Value} {b : Bool} (h : ErrC K mg x C) (s : PySem.W.subIn K cls (.ref C) = some b) : PySem.W.exmOne K cls (.ref C) = some b := PySem.W.exm_ref h.b h.e.hd h.t s
theorem kit_own {K : PySem.W.Frag} {C : Addr} {t : Value} {b : Bool} (hd : PySem.W.hasDictIn K C = true) (ty : PySem.W.typeIn K (.ref C) = some (.type "type")) (ne : (t == .ref C) = false) (s : PySem.W.subIn K t (.ref C) = some b) : PySem.W.kitOne K t (.ref C) = some b := by
  obtain ⟨cd, hc, _⟩ := PySem.W.any_some hd
  have e : ((PySem.W.clsIn K C).isSome && PySem.W.typeIn K (.ref C) == some (.type "type")) = true := by rw [hc, ty] <;> rfl
  unfold PySem.W.kitOne
  rw [if_neg (by rw [ne]; exact Bool.false_ne_true)]
  show (if ((PySem.W.clsIn K C).isSome && PySem.W.typeIn K (.ref C) == some (.type "type")) = true then PySem.W.subIn K t (.ref C) else none) = some b
  rw [if_pos e]
  exact s
theorem kit_self {K : PySem.W.Frag} {C : Addr} : PySem.W.kitOne K (.ref C) (.ref C) = some true := by
  unfold PySem.W.kitOne
  rw [if_pos (by simp)]
theorem notFirst_of {K : PySem.W.Frag} {C : Addr} {t : Value} (s : PySem.W.subIn K t (.ref C) = some false) : PySem.W.notFirst K C t = true := by
  unfold PySem.W.notFirst
  rw [s]
  simp
theorem notFirst_self {K : PySem.W.Frag} {C : Addr} : PySem.W.notFirst K C (.ref C) = true := by
  unfold PySem.W.notFirst
  simp
/-! ## sizes of numbers -/
def Bt (n : Nat) (x : Int) : Prop := x.natAbs < 2 ^ n
theorem Bt.mono {n m : Nat} {x : Int} (h : Bt n x) (l : n ≤ m) : Bt m x := Nat.lt_of_lt_of_le h (Nat.pow_le_pow_right (by decide) l)
theorem Bt.mul {n m : Nat} {x y : Int} (h : Bt n x) (h' : Bt m y) : Bt (n + m) (x * y) := by
  unfold Bt at *
  rw [Int.natAbs_mul, Nat.pow_add]
  exact Nat.mul_lt_mul'' h h'
theorem Bt.add {n : Nat} {x y : Int} (h : Bt n x) (h' : Bt n y) : Bt (n + 1) (x + y) := by
  unfold Bt at *
  rw [Nat.pow_succ]
  omega
theorem Bt.sub {n : Nat} {x y : Int} (h : Bt n x) (h' : Bt n y) : Bt (n + 1) (x - y) := by
  unfold Bt at *
  rw [Nat.pow_succ]
  omega
theorem Bt.neg {n : Nat} {x : Int} (h : Bt n x) : Bt n (-x) := by
  unfold Bt at *
  omega
theorem Bt.le {n : Nat} {x y : Int} (h : Bt n y) (l : x.natAbs ≤ y.natAbs) : Bt n x := Nat.lt_of_le_of_lt l h
theorem Bt.cmul {n m : Nat} {x y : Int} (h : Bt n x) (h' : Bt m y) (l : n + m ≤ 134217728 := by decide) : CMulX x y := mulx_ok h h' l
theorem Bt.cdiv {n : Nat} {x y : Int} (p : 0 < y) (h : Bt n y) (l : 0 < n ∧ n ≤ 9000 := by decide) : CDivW x y := wide_div p h l.1 l.2
theorem Bt.addM {n m : Nat} {x y : Int} (h : Bt n x) (h' : Bt m y) : Bt (n + m + 1) (x + y) := Bt.add (h.mono (Nat.le_add_right n m)) (h'.mono (Nat.le_add_left m n))
theorem Bt.subM {n m : Nat} {x y : Int} (h : Bt n x) (h' : Bt m y) : Bt (n + m + 1) (x - y) := Bt.sub (h.mono (Nat.le_add_right n m)) (h'.mono (Nat.le_add_left m n))
theorem two200 : (2 : Nat) ^ 200 = 1606938044258990275541962092341162602522202993782792835301376 := by decide +kernel
theorem bt200 {x : Int} (h : -1606938044258990275541962092341162602522202993782792835301376 < x ∧ x < 1606938044258990275541962092341162602522202993782792835301376) : Bt 200 x := by
  unfold Bt
  rw [two200]
  omega
theorem bt200' {x : Int} (h : Bt 200 x) : -1606938044258990275541962092341162602522202993782792835301376 < x ∧ x < 1606938044258990275541962092341162602522202993782792835301376 := by
  unfold Bt at h
  rw [two200] at h
  omega
theorem atI_mem {xs : List V} {i : Int} (h0 : 0 ≤ i) (h1 : i < (xs.length : Int)) : ∃ v, atI xs i = some v ∧ v ∈ xs := by
  obtain ⟨n, rfl⟩ : ∃ n : Nat, i = (n : Int) := ⟨i.toNat, by omega⟩
  have hn : n < xs.length := by omega
  exact ⟨xs[n], atI_nat (List.getElem?_eq_getElem hn), List.getElem_mem hn⟩
theorem mem_at {xs : List V} {i : Nat} {v : V} (h : xs[i]? = some v) : v ∈ xs := List.mem_of_getElem? h
section
variable {H : Hp} {Q : VK} {i j : Int}
theorem u_maxL (k : ∀ m, (m = i ∨ m = j) → i ≤ m → j ≤ m → Q (.int m) H) : rMax2 [.int i, .int j] H Q := ⟨i, j, rfl, by
  by_cases h : j > i
  · rw [if_pos h]; exact k j (.inr rfl) (by omega) (by omega)
  · rw [if_neg h]; exact k i (.inl rfl) (by omega) (by omega)⟩
theorem u_minL (k : ∀ m, (m = i ∨ m = j) → m ≤ i → m ≤ j → Q (.int m) H) : rMin2 [.int i, .int j] H Q := ⟨i, j, rfl, by
  by_cases h : j < i
  · rw [if_pos h]; exact k j (.inr rfl) (by omega) (by omega)
  · rw [if_neg h]; exact k i (.inl rfl) (by omega) (by omega)⟩
theorem u_absL (k : ∀ m, 0 ≤ m → (m = i ∨ m = -i) → Q (.int m) H) : rAbs [.int i] H Q := ⟨i, rfl, by
  by_cases h : i < 0
  · rw [if_pos h]; exact k _ (by omega) (.inr rfl)
  · rw [if_neg h]; exact k _ (by omega) (.inl rfl)⟩
end
theorem bt256 {x : Int} (h : -10000000000000000000000000000000000000000000000000000000000000000000000 ≤ x ∧ x ≤ 10000000000000000000000000000000000000000000000000000000000000000000000) : Bt 256 x := by
  unfold Bt
  have e : (2 : Nat) ^ 256 = 115792089237316195423570985008687907853269984665640564039457584007913129639936 := by decide +kernel
  rw [e]
  omega
theorem cmulx_of {i j : Int} (h : (-10000000000000000000000000000000000000000000000000000000000000000000000 ≤ i ∧ i ≤ 10000000000000000000000000000000000000000000000000000000000000000000000) ∧ (-10000000000000000000000000000000000000000000000000000000000000000000000 ≤ j ∧ j ≤ 10000000000000000000000000000000000000000000000000000000000000000000000)) : CMulX i j := (bt256 h.1).cmul (bt256 h.2)
theorem two100 : (2 : Nat) ^ 100 = 1267650600228229401496703205376 := by decide +kernel
theorem bt100 {x : Int} (h : -1267650600228229401496703205376 < x ∧ x < 1267650600228229401496703205376) : Bt 100 x := by
  unfold Bt
  rw [two100]
  omega
theorem two170 : (2 : Nat) ^ 170 = 1496577676626844588240573268701473812127674924007424 := by decide +kernel
theorem bt170 {x : Int} (h : -1496577676626844588240573268701473812127674924007424 < x ∧ x < 1496577676626844588240573268701473812127674924007424) : Bt 170 x := by
  unfold Bt
  rw [two170]
  omega
theorem bt30 {x : Int} (h : -1073741824 < x ∧ x < 1073741824) : Bt 30 x := by
  unfold Bt
  have e : (2 : Nat) ^ 30 = 1073741824 := by decide +kernel
  rw [e]
  omega
/-! ## caught errors, asked for their classes -/
section
variable {K : PySem.W.Frag} {mg : Str → Option Value} {D a : Addr} {H : Hp} {Q : VK}
theorem kit_none {Cs : List Addr} (h : ∀ C ∈ Cs, PySem.W.kitOne K (.ref D) (.ref C) = some false) : PySem.W.kitAny K (.ref D) (Cs.map Value.ref) = some false := by
  induction Cs with
  | nil => rfl
  | cons C r ih => exact kitAny_cons (h C List.mem_cons_self) (fun _ => ih fun x hx => h x (List.mem_cons_of_mem _ hx)) (fun z => by cases z)
theorem cls_all : ∀ Cs : List Addr, Paired ClsV (Cs.map V.ref) (Cs.map Value.ref)
  | [] => .nil
  | C :: r => .cons (.own C) (cls_all r)
theorem kit_bty {T : String} {b : Bool} (m : PySem.W.kitMeta T = true) (s : PySem.W.subIn K (.ref D) (.type T) = some b) : PySem.W.kitOne K (.ref D) (.type T) = some b := by
  unfold PySem.W.kitOne
  rw [if_neg (by simp)]
  show (if PySem.W.kitMeta T = true then PySem.W.subIn K (.ref D) (.type T) else none) = some b
  rw [if_pos m]
  exact s
theorem meta_VE : PySem.W.kitMeta "ValueError" = true := by decide +kernel
theorem isE_self (e : ExcC K D) (q : Q (.bl true) H) : rIsE2 K (.ref D) none a [.ref a, .ref D] H Q := ⟨D, .ref D, .ref D, true, rfl, rfl, e, rfl, .own D, kit_self, q⟩
theorem isE_VE (e : ExcC K D) (s : PySem.W.subIn K (.ref D) (.type "ValueError") = some true) (q : Q (.bl true) H) : rIsE2 K (.ref D) none a [.ref a, .ty "ValueError"] H Q := ⟨D, .ty "ValueError", .type "ValueError", true, rfl, rfl, e, rfl, .ty "ValueError", kit_bty meta_VE s, q⟩
theorem isE_own {C : Addr} {b : Bool} (e : ExcC K D) (k : PySem.W.kitOne K (.ref D) (.ref C) = some b) (q : Q (.bl b) H) : rIsE2 K (.ref D) none a [.ref a, .ref C] H Q := ⟨D, .ref C, .ref C, b, rfl, rfl, e, rfl, .own C, k, q⟩
theorem isET_none (Cs : List Addr) {tp : Addr} (e : ExcC K D) (ht : H tp = some (.tup (Cs.map V.ref))) (h : ∀ C ∈ Cs, PySem.W.kitOne K (.ref D) (.ref C) = some false) (q : Q (.bl false) H) : rIsET K (.ref D) none a [.ref a, .ref tp] H Q :=
  ⟨D, tp, _, _, false, rfl, rfl, e, rfl, ht, cls_all Cs, kit_none h, q⟩
theorem ErrC.no {x : Str} {C : Addr} (h : ErrC K mg x C) (s : PySem.W.subIn K (.ref D) (.ref C) = some false ∧ D ≠ C) : PySem.W.kitOne K (.ref D) (.ref C) = some false :=
  kit_own h.e.hd h.t (by simpa using s.2) s.1
end
/-! ## the written part by its letter -/
section
variable {X : Cx} (K : PySem.W.Frag)
theorem ixlK (h : X.K = K := by rfl) : IxR X (rIxL K) := by subst h; exact ix_list
theorem ixtK (h : X.K = K := by rfl) : IxR X (rIxT K) := by subst h; exact ix_tup
theorem sllK (h : X.K = K := by rfl) : SlR X (rSlL K) := by subst h; exact sl_list
theorem sltK (h : X.K = K := by rfl) : SlR X (rSlT K) := by subst h; exact sl_tup
theorem lenK (h : X.K = K := by rfl) : CallR X (.builtin "len") (rLenA K) := by subst h; exact call_len_seq
theorem isiK (h : X.K = K := by rfl) : CallR X (.builtin "isinstance") (rIsi K) := by subst h; exact call_isi
theorem eqDK (hu : X.A.units + 64 < cLine) (h : X.K = K := by rfl) : OpR X (compareOp .Eq) (rEqD K) := by subst h; exact op_eqD hu
theorem neDK (hu : X.A.units + 64 < cLine) (h : X.K = K := by rfl) : OpR X (compareOp .NotEq) (rNeD K) := by subst h; exact op_neD hu
theorem catTK (h : X.K = K := by rfl) : OpR X (binaryOp .Add) (rCatT K) := by subst h; exact op_catT
theorem inK (h : X.K = K := by rfl) : OpR X (compareOp .In) (rIn K false) := by subst h; exact op_in_seq
theorem notInK (h : X.K = K := by rfl) : OpR X (compareOp .NotIn) (rIn K true) := by subst h; exact op_notIn_seq
theorem fldK {e : Expr} {f : Str} {ta : TE} {pos : Pos} (he : PE X e ta) (hb : attributeBase e f X.env (eval e X.env) = eval e X.env) (h : X.K = K := by rfl) : PE X (.Attribute e f pos) (tFld K ta f) := by subst h; exact pe_fld he hb
theorem piLK {tg l : Expr} {tl : TE} (hl : PE X l tl) (h : X.K = K := by rfl) : PI X tg l (iList K tl) := by subst h; exact pi_list hl
theorem piTK {tg l : Expr} {tl : TE} (hl : PE X l tl) (h : X.K = K := by rfl) : PI X tg l (iTup K tl) := by subst h; exact pi_tup hl
theorem pgTK (n : Nat) {es : List Expr} {k : Nat} {t : TGs} {pos : Pos} (hc : X.calm = true) (q : PGs X es t) (hn : (assignEach es X.env).length = n := by rfl) (hst : (assignEach es X.env).findIdx? (·.1) = none := by rfl) (h : X.K = K := by rfl) :
    PG X (.Tuple es k pos) (gTup K n t) := by subst h; exact pg_tup hc q hn hst
def rListOf : List V → Hp → VK → Prop := fun xs H Q => ∃ p ys, xs = [.ref p] ∧ (SqL K H p ys ∨ SqT K H p ys) ∧ ∀ l, H l = none → Q (.ref l) (upd H l (.lst ys))
theorem listK (h : X.K = K := by rfl) : CallR X (.type "list") (rListOf K) := by subst h; exact call_list_of
def rTupOf : List V → Hp → VK → Prop := fun xs H Q => ∃ p ys, xs = [.ref p] ∧ ((SqL K H p ys ∧ ∀ l, H l = none → Q (.ref l) (upd H l (.tup ys))) ∨ (SqT K H p ys ∧ Q (.ref p) H))
theorem tupK (h : X.K = K := by rfl) : CallR X (.type "tuple") (rTupOf K) := by subst h; exact call_tuple_of
end
section
variable {K : PySem.W.Frag} {H : Hp} {Q : VK} {p : Addr} {ys : List V}
theorem listOf_l (h : SqL K H p ys) (k : ∀ l H', H l = none → Kp [] H H' → H' l = some (.lst ys) → Q (.ref l) H') : rListOf K [.ref p] H Q := ⟨p, ys, rfl, .inl h, fun l hl => k l _ hl (Kp.new hl) upd_same⟩
theorem listOf_t (h : SqT K H p ys) (k : ∀ l H', H l = none → Kp [] H H' → H' l = some (.lst ys) → Q (.ref l) H') : rListOf K [.ref p] H Q := ⟨p, ys, rfl, .inr h, fun l hl => k l _ hl (Kp.new hl) upd_same⟩
theorem tupOf_l (h : SqL K H p ys) (k : ∀ l H', H l = none → Kp [] H H' → H' l = some (.tup ys) → Q (.ref l) H') : rTupOf K [.ref p] H Q := ⟨p, ys, rfl, .inl ⟨h, fun l hl => k l _ hl (Kp.new hl) upd_same⟩⟩
theorem tupOf_t (h : SqT K H p ys) (k : Q (.ref p) H) : rTupOf K [.ref p] H Q := ⟨p, ys, rfl, .inr ⟨h, k⟩⟩
/-- xs.append(y) -/
def BmQ (K : PySem.W.Frag) (T : String) (x : V) (H : Hp) (R : Prop) : Prop := tyV K T x H ∧ R
theorem u_bm {T : String} {r : V → List V → Hp → VK → Prop} {to : TE} {t : TA} {σ : L2.St} (h : to σ H fun x H1 => BmQ K T x H1 (t σ H1 fun xs H2 => r x xs H2 Q)) : tBM K T r to t σ H Q := h
theorem bm_list {R : Prop} {a : Addr} {xs : List V} (h : H a = some (.lst xs)) (q : R) : BmQ K "list" (.ref a) H R := ⟨.inl ⟨rfl, _, sql h⟩, q⟩
theorem u_append {l : Addr} {xs : List V} {y : V} (h : H l = some (.lst xs)) (hl : xs.length < 100000) (k : ∀ H', Kp [l] H H' → H' l = some (.lst (xs ++ [y])) → Q .non H') : rAppend (.ref l) [y] H Q :=
  ⟨l, xs, y, rfl, rfl, h, Nat.lt_of_lt_of_le hl (by decide), k _ Kp.mut upd_same⟩
end
/-! ## comprehensions -/
def EndQ (a b : L2.St) (R : Prop) : Prop := a = b ∧ R
theorem endQ {a b : L2.St} {R : Prop} (e : a = b) (h : R) : EndQ a b R := ⟨e, h⟩
def AppQ (D : Addr) (acc : List V) (y : V) (H : Hp) (P : Hp → Prop) : Prop := H D = some (.lst acc) ∧ acc.length < sizeLine ∧ ∀ H', Kp [D] H H' → H' D = some (.lst (acc ++ [y])) → P H'
theorem appQ {D : Addr} {acc : List V} {y : V} {H : Hp} {P : Hp → Prop} (h : H D = some (.lst acc)) (hl : acc.length < 100000) (k : ∀ H', Kp [D] H H' → H' D = some (.lst (acc ++ [y])) → P H') : AppQ D acc y H P := ⟨h, Nat.lt_of_lt_of_le hl (by decide), k⟩
def LcQ (J : It) (g : TG) (tt : TT) (te : TE) (vs : List Nat) (σ : L2.St) (Q : VK) (H1 : Hp) : Prop := ∀ D, H1 D = none → ∃ W : Nat → Nat → Hp → Prop, (∃ m, W 0 m (upd H1 D (.lst []))) ∧ ∀ i m H, W i m H →
  (J.stop i H ∧ Q (.ref D) H) ∨ (J.go i H ∧ ∃ Nx : Hp → Prop, (∀ H', Nx H' → ∃ m', m' < m ∧ W (i + 1) m' H') ∧ ∀ x H', J.yld i H x H' → g x (wipe σ vs) H' fun σ2 H2 => wipe σ2 vs = wipe σ vs ∧ tt σ2 H2 fun b H3 =>
    if b = true then te σ2 H3 fun y H4 => ∃ acc, H4 D = some (.lst acc) ∧ acc.length < sizeLine ∧ Nx (upd H4 D (.lst (acc ++ [y]))) else Nx H3)
section
variable {K : PySem.W.Frag} {g : TG} {tt : TT} {te : TE} {vs : List Nat} {σ : L2.St} {H : Hp} {Q : VK}
theorem u_lc {wi : TI} (h : wi σ H fun J H1 => LcQ J g tt te vs σ Q H1) : tLc wi g tt te vs σ H Q := h
theorem u_yes {Q : Bool → Hp → Prop} (q : Q true H) : tYes σ H Q := q
def AppE (D : Addr) (y : V) (H : Hp) (Nx : Hp → Prop) : Prop := ∃ acc, H D = some (.lst acc) ∧ acc.length < sizeLine ∧ Nx (upd H D (.lst (acc ++ [y])))
theorem appE {D : Addr} {acc : List V} {y : V} {Nx : Hp → Prop} (h : H D = some (.lst acc)) (hl : acc.length < 100000) (k : ∀ H', Kp [D] H H' → H' D = some (.lst (acc ++ [y])) → Nx H') : AppE D y H Nx :=
  ⟨acc, h, Nat.lt_of_lt_of_le hl (by decide), k _ Kp.mut upd_same⟩
theorem l_lcL {a : Addr} (xs : List V) (Pv : Addr → Nat → Hp → Prop) (h0 : ∀ D H', H D = none → Kp [] H H' → H' D = some (.lst []) → Pv D 0 H') (hl : ∀ D i H', i ≤ xs.length → Pv D i H' → SqL K H' a xs)
    (hs : ∀ D i x H', H D = none → xs[i]? = some x → Pv D i H' → g x (wipe σ vs) H' fun σ2 H2 => EndQ (wipe σ2 vs) (wipe σ vs) (tt σ2 H2 fun b H3 => Br b (fun H4 => te σ2 H4 fun y H5 => AppE D y H5 (Pv D (i + 1))) (Pv D (i + 1)) H3))
    (hd : ∀ D H', H D = none → Pv D xs.length H' → Q (.ref D) H') : LcQ (Itl K a) g tt te vs σ Q H := fun D hD =>
  lc_list (xs := xs) (Pv D) (h0 D _ hD (Kp.new hD) upd_same) (hl D) (fun i x H' hx p => hs D i x H' hD hx p) (fun H' p => hd D H' hD p)
theorem l_lcT {a : Addr} (xs : List V) (Pv : Addr → Nat → Hp → Prop) (h0 : ∀ D H', H D = none → Kp [] H H' → H' D = some (.lst []) → Pv D 0 H') (hl : ∀ D i H', i ≤ xs.length → Pv D i H' → SqT K H' a xs)
    (hs : ∀ D i x H', H D = none → xs[i]? = some x → Pv D i H' → g x (wipe σ vs) H' fun σ2 H2 => EndQ (wipe σ2 vs) (wipe σ vs) (tt σ2 H2 fun b H3 => Br b (fun H4 => te σ2 H4 fun y H5 => AppE D y H5 (Pv D (i + 1))) (Pv D (i + 1)) H3))
    (hd : ∀ D H', H D = none → Pv D xs.length H' → Q (.ref D) H') : LcQ (Itt K a) g tt te vs σ Q H := fun D hD =>
  lc_tup (xs := xs) (Pv D) (h0 D _ hD (Kp.new hD) upd_same) (hl D) (fun i x H' hx p => hs D i x H' hD hx p) (fun H' p => hd D H' hD p)
theorem l_lcR {lo : Int} {n : Nat} (Pv : Addr → Nat → Hp → Prop) (h0 : ∀ D H', H D = none → Kp [] H H' → H' D = some (.lst []) → Pv D 0 H')
    (hs : ∀ D i H', H D = none → i < n → Pv D i H' → g (.int (lo + i)) (wipe σ vs) H' fun σ2 H2 => EndQ (wipe σ2 vs) (wipe σ vs) (tt σ2 H2 fun b H3 => Br b (fun H4 => te σ2 H4 fun y H5 => AppE D y H5 (Pv D (i + 1))) (Pv D (i + 1)) H3))
    (hd : ∀ D H', H D = none → Pv D n H' → Q (.ref D) H') : LcQ (Itr lo n) g tt te vs σ Q H := fun D hD =>
  lc_range (Pv D) (h0 D _ hD (Kp.new hD) upd_same) (fun i H' hx p => hs D i H' hD hx p) (fun H' p => hd D H' hD p)
end
/-! ## methods called, defs called in a try -/
def MethQ (C : Addr) (m : Str) (x : V) (H : Hp) (R : Prop) : Prop := ∃ a dx fs, x = .ref a ∧ H a = some (.ins C dx fs) ∧ fs.lookup m = none ∧ R
theorem u_meth {C : Addr} {m : Str} {sp : Sp} {E : XK} {ta : TE} {t : TA} {σ : L2.St} {H : Hp} {Q : VK} (h : ta σ H fun x H1 => MethQ C m x H1 (t σ H1 fun vs H2 => sp (x :: (vs ++ [])) H2 Q E)) : tMeth C m sp [] E ta t σ H Q := h
theorem u_callS {sp : Sp} {E : L2.St → XK} {t : TA} {σ : L2.St} {H : Hp} {Q : VK} (h : t σ H fun vs H1 => sp (vs ++ []) H1 Q (E σ)) : tCallS sp E t σ H Q := by
  have e : (fun (vs : List V) (H1 : Hp) => sp (vs ++ []) H1 Q (E σ)) = fun vs H1 => sp vs H1 Q (E σ) := by funext vs H1; rw [List.append_nil]
  rw [e] at h
  exact h
section
variable {X : Cx} {CX : CXT} {k : Nat} {C : Addr} {x m : Str} {ps : List Str} {sp : Sp} {E : XK} {p pos apos : Pos} {e o : Expr} {es : List Expr} {ta : TE} {t : TA}
theorem pe_mc {pl : Sem Bool} (F : Mc X.prog X.w X.K X.mg X.base CX k C m ps sp) (c : Cls X.K C) (hx : Passes CX X E) (hr : Room k X.A) (he : PE X o ta) (ha : PA X (e :: es) t)
    (hst : starEach (e :: es) X.env = (false, eval e X.env) :: starEach es X.env := by rfl) (hpl : (backTo pos (starEach es X.env)).any (·.1) = false := by rfl)
    (ht : eval (.Call (.Attribute o m apos) (e :: es) [] pos) X.env = (eval o X.env >>= fun ov => standAt apos.atName >>= fun _ => holding [ov] (getMethod ov m pl) >>= fun y => callWith pos y.1 y.2 (backTo pos (starEach (e :: es) X.env)) (backToKw pos (keywordEach [] X.env))) := by rfl) :
    PE X (.Call (.Attribute o m apos) (e :: es) [] pos) (tMeth C m sp [] E ta t) := by
  obtain ⟨f, fd, ok, a, i, kp, b⟩ := F
  exact pe_meth (pl := pl) he c ⟨a, i, kp⟩ ok hr b .nil hx ha hst hpl ht
theorem pe_fcS {E : L2.St → XK} (F : Fc X.prog X.w X.K X.mg X.base CX k x ps sp) (hx : ∀ σ, PassesAt CX X σ (E σ)) (hr : Room k X.A) (ha : PA X (e :: es) t) (hg : Gl X x := by rfl) (hdb : (x == ("__debug__" : Str)) = false := by decide)
    (he : starEach (e :: es) X.env = (false, eval e X.env) :: starEach es X.env := by rfl) (hpl : (backTo pos (starEach es X.env)).any (·.1) = false := by rfl) : PE X (.Call (.Name x p) (e :: es) [] pos) (tCallS sp E t) := by
  obtain ⟨f, fd, F, hm, hk, hb⟩ := F
  exact pe_callS F hr hg hm hk hb hx ha hdb he hpl
end
end U

set_option linter.all false
set_option autoImplicit false
namespace Fr
/-- t / b is u / d in lowest terms -/
def Fr (t b u d : Int) : Prop := 1 ≤ b ∧ Nat.gcd t.natAbs b.natAbs = 1 ∧ t * d = u * b
theorem Fr.val {t b U D U' D' : Int} (h : Fr t b U D) (hD : 1 ≤ D) (e : U * D' = U' * D) : Fr t b U' D' := by
  obtain ⟨h1, h2, h3⟩ := h
  refine ⟨h1, h2, ?_⟩
  have hne : D ≠ 0 := by omega
  refine Int.eq_of_mul_eq_mul_right hne ?_
  grind
theorem Fr.dvd {t b u d : Int} (h : Fr t b u d) : b.natAbs ∣ d.natAbs := by
  obtain ⟨h1, h2, h3⟩ := h
  have e : t.natAbs * d.natAbs = u.natAbs * b.natAbs := by rw [← Int.natAbs_mul, ← Int.natAbs_mul, h3]
  have hd : b.natAbs ∣ t.natAbs * d.natAbs := by rw [e]; exact Nat.dvd_mul_left _ _
  exact Nat.Coprime.dvd_of_dvd_mul_left (Nat.Coprime.symm h2) hd
theorem Fr.le {t b u d : Int} (h : Fr t b u d) (hd : 1 ≤ d) : b ≤ d := by
  have q := Nat.le_of_dvd (by omega) h.dvd
  omega
theorem Fr.absle {t b u d : Int} (h : Fr t b u d) (hd : 1 ≤ d) : t.natAbs ≤ u.natAbs := by
  have hb := h.le hd
  obtain ⟨h1, h2, h3⟩ := h
  have e : t.natAbs * d.natAbs = u.natAbs * b.natAbs := by rw [← Int.natAbs_mul, ← Int.natAbs_mul, h3]
  have l : b.natAbs ≤ d.natAbs := by omega
  have l2 : t.natAbs * d.natAbs ≤ u.natAbs * d.natAbs := by rw [e]; exact Nat.mul_le_mul_left _ l
  exact Nat.le_of_mul_le_mul_right l2 (by omega)
theorem Fr.init {u d : Int} (hd : 1 ≤ d) : Fr (u / ((Nat.gcd u.natAbs d.natAbs : Nat) : Int)) (d / ((Nat.gcd u.natAbs d.natAbs : Nat) : Int)) u d := by
  obtain ⟨g, hg⟩ : ∃ g, g = Nat.gcd u.natAbs d.natAbs := ⟨_, rfl⟩
  have gp : 0 < g := by rw [hg]; exact Nat.gcd_pos_of_pos_right _ (by omega)
  have du : ((g : Nat) : Int) ∣ u := by rw [hg]; exact Int.ofNat_dvd_left.mpr (Nat.gcd_dvd_left _ _)
  have dd : ((g : Nat) : Int) ∣ d := by rw [hg]; exact Int.ofNat_dvd_left.mpr (Nat.gcd_dvd_right _ _)
  rw [← hg]
  obtain ⟨a, ha⟩ := du
  obtain ⟨b, hb⟩ := dd
  have gne : ((g : Nat) : Int) ≠ 0 := by omega
  have ea : u / (g : Int) = a := by rw [ha]; exact Int.mul_ediv_cancel_left _ gne
  have eb : d / (g : Int) = b := by rw [hb]; exact Int.mul_ediv_cancel_left _ gne
  rw [ea, eb]
  have bp : 1 ≤ b := by
    rcases Int.lt_or_le b 1 with hlt | hle
    · have : (g : Int) * b ≤ 0 := Int.mul_nonpos_of_nonneg_of_nonpos (by omega) (by omega)
      omega
    · exact hle
  refine ⟨bp, ?_, ?_⟩
  · have e1 : u.natAbs = g * a.natAbs := by rw [ha, Int.natAbs_mul]; simp
    have e2 : d.natAbs = g * b.natAbs := by rw [hb, Int.natAbs_mul]; simp
    rw [e1, e2, Nat.gcd_mul_left] at hg
    have q : g * 1 = g * Nat.gcd a.natAbs b.natAbs := by rw [Nat.mul_one]; exact hg
    exact (Nat.eq_of_mul_eq_mul_left gp q).symm
  · rw [ha, hb]
    grind
theorem Fr.gpos {u d : Int} (hd : 1 ≤ d) : (0 : Int) < ((Nat.gcd u.natAbs d.natAbs : Nat) : Int) := by
  have := Nat.gcd_pos_of_pos_right u.natAbs (n := d.natAbs) (by omega)
  omega
theorem Fr.gle {u d : Int} (hd : 1 ≤ d) : ((Nat.gcd u.natAbs d.natAbs : Nat) : Int) ≤ d := by
  have := Nat.gcd_le_right u.natAbs (n := d.natAbs) (by omega)
  omega
theorem Fr.one {u : Int} {t b d : Int} (h : Fr t b u d) : Fr t b t b := ⟨h.1, h.2.1, rfl⟩
theorem Fr.eq_iff {t b u d t' b' u' d' : Int} (h : Fr t b u d) (h' : Fr t' b' u' d') (hd : 1 ≤ d) (hd' : 1 ≤ d') : (t = t' ∧ b = b') ↔ u * d' = u' * d := by
  constructor
  · rintro ⟨rfl, rfl⟩
    obtain ⟨h1, _, h3⟩ := h
    obtain ⟨_, _, h3'⟩ := h'
    refine Int.eq_of_mul_eq_mul_right (a := b) (by omega) ?_
    grind
  · intro e
    have g : Fr t b u' d' := h.val hd e
    have dv := g.dvd
    have e2 : t * b' = t' * b := by
      obtain ⟨h1, _, h3⟩ := g
      obtain ⟨_, _, h3'⟩ := h'
      refine Int.eq_of_mul_eq_mul_right (a := d') (by omega) ?_
      grind
    have f : Fr t b t' b' := ⟨h.1, h.2.1, e2⟩
    have f' : Fr t' b' t b := ⟨h'.1, h'.2.1, e2.symm⟩
    have l1 := f.le h'.1
    have l2 := f'.le h.1
    have eb : b = b' := by omega
    refine ⟨?_, eb⟩
    rw [eb] at e2
    have := h'.1
    exact Int.eq_of_mul_eq_mul_right (by omega) e2
theorem Fr.add {t b u d t' b' u' d' x y : Int} (h : Fr t b u d) (h' : Fr t' b' u' d') (s : Fr x y (t * b' + t' * b) (b * b')) : Fr x y (u * d' + u' * d) (d * d') := by
  refine s.val (Int.mul_pos h.1 h'.1) ?_
  obtain ⟨_, _, h3⟩ := h
  obtain ⟨_, _, h3'⟩ := h'
  grind
theorem Fr.sub {t b u d t' b' u' d' x y : Int} (h : Fr t b u d) (h' : Fr t' b' u' d') (s : Fr x y (t * b' - t' * b) (b * b')) : Fr x y (u * d' - u' * d) (d * d') := by
  refine s.val (Int.mul_pos h.1 h'.1) ?_
  obtain ⟨_, _, h3⟩ := h
  obtain ⟨_, _, h3'⟩ := h'
  grind
end Fr

set_option linter.all false
set_option autoImplicit false
namespace Fr
theorem Fr.mul {t b u d t' b' u' d' x y : Int} (h : Fr t b u d) (h' : Fr t' b' u' d') (s : Fr x y (t * t') (b * b')) : Fr x y (u * u') (d * d') := by
  refine s.val (Int.mul_pos h.1 h'.1) ?_
  obtain ⟨_, _, h3⟩ := h
  obtain ⟨_, _, h3'⟩ := h'
  grind
theorem mul_le_iff {a b c : Int} (hc : 0 < c) : a * c ≤ b * c ↔ a ≤ b := ⟨fun h => Int.le_of_mul_le_mul_right h hc, fun h => Int.mul_le_mul_of_nonneg_right h (Int.le_of_lt hc)⟩
theorem Fr.le_iff {t b u d t' b' u' d' : Int} (h : Fr t b u d) (h' : Fr t' b' u' d') (hd : 1 ≤ d) (hd' : 1 ≤ d') : t * b' ≤ t' * b ↔ u * d' ≤ u' * d := by
  have p : 0 < b * b' := Int.mul_pos h.1 h'.1
  have q : 0 < d * d' := Int.mul_pos hd hd'
  have e1 : (t * b') * (d * d') = (u * d') * (b * b') := by
    obtain ⟨_, _, h3⟩ := h
    grind
  have e2 : (t' * b) * (d * d') = (u' * d) * (b * b') := by
    obtain ⟨_, _, h3⟩ := h'
    grind
  rw [← mul_le_iff q, e1, e2, mul_le_iff p]
theorem Fr.pow {t b u d : Int} (h : Fr t b u d) (n : Nat) : Fr (t ^ n) (b ^ n) (t ^ n) (b ^ n) := by
  refine ⟨?_, ?_, rfl⟩
  · have : 0 < b ^ n := Int.pow_pos h.1
    omega
  · rw [Int.natAbs_pow, Int.natAbs_pow]
    exact Nat.Coprime.pow n n h.2.1
/-- the step of a power -/
theorem Fr.pow_step {t b u d x y : Int} (h : Fr t b u d) (n : Nat) (s : Fr x y (t ^ n * t) (b ^ n * b)) : x = t ^ (n + 1) ∧ y = b ^ (n + 1) := by
  have q := h.pow (n + 1)
  rw [← Int.pow_succ, ← Int.pow_succ] at s
  exact (Fr.eq_iff s q q.1 q.1).mpr rfl
theorem Fr.self_eq {x y : Int} {t b u d : Int} (h : Fr t b u d) (s : Fr x y t b) : x = t ∧ y = b := (Fr.eq_iff s h.one h.1 h.1).mpr rfl
theorem Fr.abs {t b u d : Int} (h : Fr t b u d) (hd : 1 ≤ d) : Fr (t.natAbs : Int) b (u.natAbs : Int) d := by
  obtain ⟨h1, h2, h3⟩ := h
  refine ⟨h1, by simpa using h2, ?_⟩
  have q := congrArg Int.natAbs h3
  rw [Int.natAbs_mul, Int.natAbs_mul] at q
  have e1 : ((t.natAbs * d.natAbs : Nat) : Int) = ((u.natAbs * b.natAbs : Nat) : Int) := by rw [q]
  have e2 : (d.natAbs : Int) = d := by omega
  have e3 : (b.natAbs : Int) = b := by omega
  rw [Int.natCast_mul, Int.natCast_mul, e2, e3] at e1
  exact e1
/-- the sum of a row -/
def sumStep (s : Int × Int) (f : Int × Int) : Int × Int := (s.1 * f.2 + f.1 * s.2, s.2 * f.2)
def sumRow (l : List (Int × Int)) : Int × Int := l.foldl sumStep (0, 1)
theorem take_more {α : Type} : ∀ {l : List α} {i : Nat} {x : α}, l[i]? = some x → l.take (i + 1) = l.take i ++ [x]
  | [], i, x, h => by simp at h
  | a :: l, 0, x, h => by simp at h; simp [h]
  | a :: l, i + 1, x, h => by
    have := take_more (l := l) (i := i) (x := x) (by simpa using h)
    simp [this]
theorem sum_more {l : List (Int × Int)} {i : Nat} {f : Int × Int} (h : l[i]? = some f) : sumRow (l.take (i + 1)) = sumStep (sumRow (l.take i)) f := by
  unfold sumRow
  rw [take_more h, List.foldl_append]
  rfl
/-- the greatest of a row -/
def bestStep (s : Int × Int) (f : Int × Int) : Int × Int := if f.1 * s.2 > s.1 * f.2 then f else s
def bestRow (l : List (Int × Int)) : Int × Int := l.foldl bestStep (0, 1)
theorem best_more {l : List (Int × Int)} {i : Nat} {f : Int × Int} (h : l[i]? = some f) : bestRow (l.take (i + 1)) = bestStep (bestRow (l.take i)) f := by
  unfold bestRow
  rw [take_more h, List.foldl_append]
  rfl
theorem le_trans' {a b c d e f : Int} (hb : 1 ≤ b) (hd : 1 ≤ d) (hf : 1 ≤ f) (h1 : a * d ≤ c * b) (h2 : c * f ≤ e * d) : a * f ≤ e * b := by
  have p : 0 < d := hd
  rw [← mul_le_iff p]
  have e1 : a * f * d = a * d * f := by grind
  have e2 : e * b * d = e * d * b := by grind
  rw [e1, e2]
  have q1 : a * d * f ≤ c * b * f := Int.mul_le_mul_of_nonneg_right h1 (by omega)
  have q2 : c * f * b ≤ e * d * b := Int.mul_le_mul_of_nonneg_right h2 (by omega)
  have e3 : c * b * f = c * f * b := by grind
  omega
theorem best_all : ∀ (l : List (Int × Int)) (s : Int × Int), 1 ≤ s.2 → (∀ f ∈ l, 1 ≤ f.2) → 1 ≤ (l.foldl bestStep s).2 ∧ s.1 * (l.foldl bestStep s).2 ≤ (l.foldl bestStep s).1 * s.2 ∧ ∀ f ∈ l, f.1 * (l.foldl bestStep s).2 ≤ (l.foldl bestStep s).1 * f.2
  | [], s, hs, _ => ⟨hs, Int.le_refl _, fun f hf => by cases hf⟩
  | g :: r, s, hs, hl => by
    have hg := hl g List.mem_cons_self
    have hm : 1 ≤ (bestStep s g).2 := by unfold bestStep; split <;> assumption
    have a1 : s.1 * (bestStep s g).2 ≤ (bestStep s g).1 * s.2 := by
      unfold bestStep; split
      · omega
      · exact Int.le_refl _
    have a2 : g.1 * (bestStep s g).2 ≤ (bestStep s g).1 * g.2 := by
      unfold bestStep; split
      · exact Int.le_refl _
      · omega
    obtain ⟨q1, q2, q3⟩ := best_all r (bestStep s g) hm fun f hf => hl f (List.mem_cons_of_mem _ hf)
    refine ⟨q1, le_trans' hs hm q1 a1 q2, fun f hf => ?_⟩
    rcases List.mem_cons.mp hf with rfl | hf
    · exact le_trans' hg hm q1 a2 q2
    · exact q3 f hf
theorem best_mem : ∀ (l : List (Int × Int)) (s : Int × Int), l.foldl bestStep s = s ∨ l.foldl bestStep s ∈ l
  | [], s => .inl rfl
  | g :: r, s => by
    show r.foldl bestStep (bestStep s g) = s ∨ r.foldl bestStep (bestStep s g) ∈ g :: r
    have h1 : bestStep s g = s ∨ bestStep s g = g := by unfold bestStep; split <;> simp
    rcases best_mem r (bestStep s g) with h | h
    · rw [h]
      rcases h1 with h1 | h1
      · exact .inl h1
      · rw [h1]; exact .inr List.mem_cons_self
    · exact .inr (List.mem_cons_of_mem _ h)
end Fr

set_option Elab.async false
set_option linter.all false
set_option autoImplicit false
set_option maxRecDepth 100000
set_option maxHeartbeats 4000000
namespace U
open PySem PySem.Spec PyProof.Rows L2
/-! ## str(x), x an own instance -/
section
variable {X : Cx} {CX : CXT} {n : Nat} {C : Addr} {ps : List Str} {sp : Sp} {E : XK}
def rStrOwn (C : Addr) (sp : Sp) (E : XK) : List V → Hp → VK → Prop := fun xs H Q => ∃ a dx fs, xs = [V.ref a] ∧ H a = some (.ins C dx fs) ∧ sp [.ref a] H (fun z H' => ∃ y, z = .str y ∧ Q z H') E
theorem call_strOwn (F : Mc X.prog X.w X.K X.mg X.base CX n C "__str__" ps sp) (hx : Passes CX X E) (hr : Room (n + 2) X.A) : CallR X (.type "str") (rStrOwn C sp E) := by
  obtain ⟨f, fd, ok, a, i, _, b⟩ := F
  intro pins s σ H xs us Q inv rel asked
  obtain ⟨p, dx, fs, rfl, hp, go⟩ := asked
  obtain ⟨u, rfl, ru⟩ := rel.one
  cases (show u = Value.ref p from ru)
  obtain ⟨_, J, _⟩ := ins_get inv.hok hp
  obtain ⟨_, J, _⟩ := J.look
  have r2 : Room n X.A.in1.in1 := (show Room (n + 1) X.A.in1 from Room.in1 hr).in1
  refine PySem.W.kso_call r2.units0 inv.kIn J a i ?_
  have len : [Value.ref p].length = ps.length := ok.len _ _ _ _ go
  have bd := b s [Value.ref p] inv.kIn (by rw [List.append_nil]; exact len)
  rw [List.append_nil] at bd
  refine wpAny_call (codeAny_mono (ok.run _ X.stack s H ⟨[.ref p], []⟩ [.ref p] [.ref p] _ E r2 inv.env0.in1.in1 bd (.cons rfl .nil) go) fun r s' hq => ?_)
  cases r with
  | error e => exact hx pins σ H s e s' inv hq
  | ok fl =>
    cases fl with
    | ret u =>
      obtain ⟨v, H3, J3, rv, y, ey, q⟩ := inv.after hq
      subst ey
      obtain ⟨t, e⟩ := (show ∃ t, u = Value.str y t from rv)
      subst e
      exact ⟨.str y, H3, J3, ⟨t, rfl⟩, q⟩
    | next => exact hq.elim
    | brk => exact hq.elim
    | cont => exact hq.elim
end
/-! ## static methods -/
/-- C.m is a staticmethod: its record at p, its def at g -/
structure SmC (K : PySem.W.Frag) (C : Addr) (mc : Value) (m : Str) (p g : Addr) : Prop where
  rd : PySem.W.readsIn K C mc = true
  ga : PySem.W.specialIn K (.ref C) "__getattribute__" = some (some (.builtin "type.__getattribute__"))
  at_ : PySem.W.findCls K (.ref C) mc m = some (.get (.builtin "staticmethod.__get__") (.ref p) .none (.ref C))
  rc : ∃ rest, PySem.W.recIn K p "staticmethod" = some (.ref g :: rest)
/-- .. reached through an instance of C -/
structure SmI (K : PySem.W.Frag) (C : Addr) (m : Str) (p g : Addr) : Prop where
  pg : PySem.W.plainGet K C Str.empty = true
  ic : PySem.W.isClsIn K C = true
  at_ : PySem.W.findIn K (.ref C) m = some (some (.ref p))
  ty : PySem.W.typeIn K (.ref p) = some (.type "staticmethod")
  get : PySem.W.specialIn K (.ref p) "__get__" = some (some (.builtin "staticmethod.__get__"))
  tk : PySem.W.takesIn K (.ref p) = some false
  cp : PySem.W.copiedNames.contains m = false
  rc : ∃ rest, PySem.W.recIn K p "staticmethod" = some (.ref g :: rest)
/-- C.m(..) -/
def tSm (C : Addr) (sp : Sp) (E : L2.St → XK) (ta : TE) (t : TA) : TE := fun σ H Q => ta σ H fun x H1 => x = .ref C ∧ t σ H1 fun vs H2 => sp vs H2 Q (E σ)
def tSmI (C : Addr) (m : Str) (sp : Sp) (E : L2.St → XK) (ta : TE) (t : TA) : TE := fun σ H Q => ta σ H fun x H1 => MethQ C m x H1 (t σ H1 fun vs H2 => sp vs H2 Q (E σ))
section
variable {X : Cx} {CX : CXT} {k : Nat} {C p g : Addr} {mc : Value} {ps : List Str} {sp : Sp} {E : L2.St → XK} {o e : Expr} {es : List Expr} {m : Str} {pos apos : Pos} {ta : TE} {t : TA} {pl : Sem Bool} {fd : FuncData}
theorem pe_sm (S : SmC X.K C mc m p g) (F : FnOk X.prog X.w X.K X.mg X.base CX k g fd ps sp) (hk : PySem.W.keepIn X.K (.ref g) = true) (hb : Binds X.K fd ps []) (hx : ∀ σ, PassesAt CX X σ (E σ)) (hr : Room k X.A) (he : PE X o ta) (ha : PA X (e :: es) t)
    (hst : starEach (e :: es) X.env = (false, eval e X.env) :: starEach es X.env := by rfl) (hpl : (backTo pos (starEach es X.env)).any (·.1) = false := by rfl)
    (ht : eval (.Call (.Attribute o m apos) (e :: es) [] pos) X.env = (do
      let ov ← eval o X.env
      standAt apos.atName
      let (f, first) ← holding [ov] (getMethod ov m pl)
      callWith pos f first (backTo pos (starEach (e :: es) X.env)) (backToKw pos (keywordEach [] X.env))) := by rfl) :
    PE X (.Call (.Attribute o m apos) (e :: es) [] pos) (tSm C sp E ta t) := by
  refine ⟨fun pins s σ H Q I h => ?_⟩
  refine PySem.W.methodCall_KW (pl := pl) (thn (he.run pins s σ H _ I h) fun u s1 ⟨x, H1, I1, rx, ex, q⟩ => ?_) ht
  subst ex
  obtain rfl : u = Value.ref C := rx
  obtain ⟨rest, hp⟩ := S.rc
  refine PySem.W.method_cls I1.kIn S.ga (PySem.W.cls_bind I1.kIn S.rd S.at_ ?_)
  refine wpAny_call (PySem.W.sm_get (s := { s1 with toks := s1.toks + 1 }) I1.kIn hp (PySem.W.handed_on rfl ?_))
  have I2 : Inv X pins σ H1 { s1 with toks := s1.toks + 1 } := I1.tok _
  refine PySem.W.callWith_K (h₀ := X.base) (first := []) I.ok.mod.kin hk (thn (ha.run pos pins _ σ H1 _ I2 q) fun us s3 ⟨vs, H2, I3, rv, q2⟩ => ⟨I3.kIn, ?_⟩) hst hpl
  exact run_fnS F hr hb (hx σ) I3 rv q2
theorem pe_smI (S : SmI X.K C m p g) (F : FnOk X.prog X.w X.K X.mg X.base CX k g fd ps sp) (hk : PySem.W.keepIn X.K (.ref g) = true) (hb : Binds X.K fd ps []) (hx : ∀ σ, PassesAt CX X σ (E σ)) (hr : Room k X.A) (he : PE X o ta) (ha : PA X (e :: es) t)
    (hst : starEach (e :: es) X.env = (false, eval e X.env) :: starEach es X.env := by rfl) (hpl : (backTo pos (starEach es X.env)).any (·.1) = false := by rfl)
    (ht : eval (.Call (.Attribute o m apos) (e :: es) [] pos) X.env = (do
      let ov ← eval o X.env
      standAt apos.atName
      let (f, first) ← holding [ov] (getMethod ov m pl)
      callWith pos f first (backTo pos (starEach (e :: es) X.env)) (backToKw pos (keywordEach [] X.env))) := by rfl) :
    PE X (.Call (.Attribute o m apos) (e :: es) [] pos) (tSmI C m sp E ta t) := by
  refine ⟨fun pins s σ H Q I h => ?_⟩
  refine PySem.W.methodCall_KW (pl := pl) (thn (he.run pins s σ H _ I h) fun u s1 ⟨x, H1, I1, rx, a, dx, fs, ex, ea, l, q⟩ => ?_) ht
  subst ex
  obtain rfl : u = Value.ref a := rx
  obtain ⟨mA, O, rr, _, _, _⟩ := ins_get I1.hok ea
  have hn : mA m = none := RelO.none_of (by rw [← l]; exact rr m)
  obtain ⟨od, J, hl⟩ := O.look
  obtain ⟨rest, hp⟩ := S.rc
  refine PySem.W.method_usual (r := some (.ref p)) I1.kIn J (PySem.W.plainGet_of (name := m) S.pg).1 (PySem.W.plainGet_of (name := m) S.pg).2 S.at_ ?_ ?_
  · show ((PySem.W.typeIn X.K (.ref p)).any fun t => t != .type "function" && t != .type "method_descriptor" && t != .type "wrapper_descriptor") = true
    rw [S.ty]
    first
    | rfl
    | decide +kernel
  · refine PySem.W.get_bind I1.kIn J (PySem.W.plainGet_of (name := m) S.pg).1 (ClX.find_cm S.ic S.at_ S.get S.tk S.cp (by rw [hl m, hn])) (PySem.W.plainGet_of (name := m) S.pg).2 ?_
    refine wpAny_call (PySem.W.sm_get (s := { s1 with toks := s1.toks + 1 }) I1.kIn hp (PySem.W.handed_on rfl ?_))
    have I2 : Inv X pins σ H1 { s1 with toks := s1.toks + 1 } := I1.tok _
    refine PySem.W.callWith_K (h₀ := X.base) (first := []) I.ok.mod.kin hk (thn (ha.run pos pins _ σ H1 _ I2 q) fun us s3 ⟨vs, H2, I3, rv, q2⟩ => ⟨I3.kIn, ?_⟩) hst hpl
    exact run_fnS F hr hb (hx σ) I3 rv q2
end
/-! ## texts -/
abbrev TS_ := SX.S
def rFind : V → List V → Hp → VK → Prop := fun x xs H Q => ∃ a b, x = .str a ∧ xs = [.str b] ∧ Q (.int (Txt.find a b)) H
def rPart : V → List V → Hp → VK → Prop := fun x xs H Q => ∃ a b, x = .str a ∧ xs = [.str b] ∧ (b.length == 0) = false ∧ a.length ≤ sizeLine ∧
    ∀ p, H p = none → Q (.ref p) (upd H p (.tup [.str (Txt.partition a b).1, .str (Txt.partition a b).2.1, .str (Txt.partition a b).2.2]))
def rRmp : V → List V → Hp → VK → Prop := fun x xs H Q => ∃ a b, x = .str a ∧ xs = [.str b] ∧ a.length ≤ sizeLine ∧ Q (.str (Txt.removeprefix a b)) H
def rAsc : V → List V → Hp → VK → Prop := fun x xs H Q => ∃ a, x = .str a ∧ xs = [] ∧ True ∧ Q (.bl (Txt.isascii a)) H
def rDgt : V → List V → Hp → VK → Prop := fun x xs H Q => ∃ a, x = .str a ∧ xs = [] ∧ True ∧ Q (.bl (Txt.isdigit a)) H
def rAddS : R2 := fun x y H Q => ∃ i j, x = .str i ∧ y = .str j ∧ i.length + j.length ≤ sizeLine ∧ Q (.str (i ++ j)) H
def rLenS : List V → Hp → VK → Prop := fun xs H Q => ∃ z, xs = [.str z] ∧ z.length ≤ sizeLine ∧ Q (.int z.length) H
def rStrI : List V → Hp → VK → Prop := fun xs H Q => ∃ i, xs = [.int i] ∧ i.natAbs.log2 < 1920 ∧ Q (.str (toString i)) H
def rIntS : List V → Hp → VK → Prop := fun xs H Q => ∃ a n, xs = [.str a] ∧ PySem.intText? a = some n ∧ a.length ≤ 640 ∧ Q (.int n) H
def rInS : R2 := fun x y H Q => ∃ (c : Nat) (z : Str), x = .str ⟨#[c]⟩ ∧ y = .str z ∧ Q (.bl (decide (c ∈ z.cps.toList))) H
def rNiS : R2 := fun x y H Q => ∃ (c : Nat) (z : Str), x = .str ⟨#[c]⟩ ∧ y = .str z ∧ Q (.bl (!decide (c ∈ z.cps.toList))) H
def rIsN : R2 := fun x y H Q => y = .non ∧ Q (.bl (decide (x = .non))) H
def rNoN : R2 := fun x y H Q => y = .non ∧ Q (.bl (!decide (x = .non))) H
def rRepS : R2 := fun x y H Q => ∃ (c : Nat) (n : Int), x = .str ⟨#[c]⟩ ∧ y = .int n ∧ -100000 ≤ n ∧ n ≤ 100000 ∧ Q (.str (Txt.mul ⟨#[c]⟩ n)) H
section
variable {X : Cx}
theorem m_find : MtR X "str.find" rFind := mt_find
theorem m_part : MtR X "str.partition" rPart := mt_partition
theorem m_rmp : MtR X "str.removeprefix" rRmp := mt_removeprefix
theorem m_asc : MtR X "str.isascii" rAsc := mt_isascii
theorem m_dgt : MtR X "str.isdigit" rDgt := mt_isdigit
theorem o_addS : OpR X (binaryOp .Add) rAddS := op_add_str
theorem c_lenS : CallR X (.builtin "len") rLenS := call_len_str
theorem c_strI : CallR X (.type "str") rStrI := call_str_int
theorem c_intS : CallR X (.type "int") rIntS := call_int_str
theorem o_inS : OpR X (compareOp .In) rInS := op_in_sign
theorem o_niS : OpR X (compareOp .NotIn) rNiS := op_notIn_sign
theorem o_isN : OpR X (compareOp .Is) rIsN := op_isN
theorem o_noN : OpR X (compareOp .IsNot) rNoN := op_notN
theorem mulOk1 {c : Nat} {n : Int} (h0 : -100000 ≤ n) (h1 : n ≤ 100000) : MulOk ⟨#[c]⟩ n := by
  have l1 : (⟨#[c]⟩ : Str).length = 1 := rfl
  refine ⟨?_, fun p _ => ?_, fun p _ => ?_⟩
  · rw [Bool.or_eq_false_iff]
    exact ⟨decide_eq_false (by omega), decide_eq_false (by omega)⟩
  · rw [l1]
    have : (1 : Int) ≤ (2 ^ 63 - 1) / n := (Int.le_ediv_iff_mul_le (by omega)).mpr (by omega)
    omega
  · rw [l1]
    unfold Builtin.Str.tooLong
    refine decide_eq_false ?_
    have e : sizeLine = 16777216 := by decide
    rw [e]
    omega
theorem o_repS : OpR X (binaryOp .Mult) rRepS := by
  intro pins s σ H x y v u Q I rx ry h
  obtain ⟨c, n, rfl, rfl, h0, h1, q⟩ := h
  obtain ⟨t, rfl⟩ := rx
  obtain ⟨t', rfl⟩ := ry
  exact PySem.SB.mul (mulOk1 h0 h1) fun t' k => ⟨.str _, H, I.tok _, ⟨_, rfl⟩, q⟩
end
section
variable {σ : L2.St} {H : Hp} {Q : VK} {K : PySem.W.Frag} {a b : Str} {i : Int} {c : Nat}
theorem bm_str {R : Prop} (q : R) : BmQ K "str" (.str a) H R := ⟨rfl, q⟩
theorem u_bm0 {T : String} {r : V → List V → Hp → VK → Prop} {to : TE} (h : to σ H fun x H1 => BmQ K T x H1 (r x [] H1 Q)) : tBM0 K T r to σ H Q := h
theorem sl5 {n : Nat} (h : n ≤ 100000) : n ≤ sizeLine := Nat.le_trans h (by decide)
theorem u_find (q : Q (.int (Txt.find a b)) H) : rFind (.str a) [.str b] H Q := ⟨a, b, rfl, rfl, q⟩
theorem u_partS (hb : (b.length == 0) = false) (ha : a.length ≤ 100000) (k : ∀ p H', H p = none → Kp [] H H' → H' p = some (.tup [.str (Txt.partition a b).1, .str (Txt.partition a b).2.1, .str (Txt.partition a b).2.2]) → Q (.ref p) H') : rPart (.str a) [.str b] H Q :=
  ⟨a, b, rfl, rfl, hb, sl5 ha, fun p hp => k p _ hp (Kp.new hp) upd_same⟩
theorem u_rmp (ha : a.length ≤ 100000) (q : Q (.str (Txt.removeprefix a b)) H) : rRmp (.str a) [.str b] H Q := ⟨a, b, rfl, rfl, sl5 ha, q⟩
theorem u_asc (q : Q (.bl (Txt.isascii a)) H) : rAsc (.str a) [] H Q := ⟨a, rfl, rfl, trivial, q⟩
theorem u_dgt (q : Q (.bl (Txt.isdigit a)) H) : rDgt (.str a) [] H Q := ⟨a, rfl, rfl, trivial, q⟩
theorem u_addS (h : a.length + b.length ≤ 100000) (q : Q (.str (a ++ b)) H) : rAddS (.str a) (.str b) H Q := ⟨a, b, rfl, rfl, sl5 h, q⟩
theorem u_lenS (h : a.length ≤ 100000) (q : Q (.int a.length) H) : rLenS [.str a] H Q := ⟨a, rfl, sl5 h, q⟩
theorem u_strI (h : i.natAbs.log2 < 1920) (q : Q (.str (toString i)) H) : rStrI [.int i] H Q := ⟨i, rfl, h, q⟩
theorem u_intS {n : Int} (e : PySem.intText? a = some n) (h : a.length ≤ 640) (q : Q (.int n) H) : rIntS [.str a] H Q := ⟨a, n, rfl, e, h, q⟩
theorem u_inS (q : Q (.bl (decide (c ∈ b.cps.toList))) H) : rInS (.str ⟨#[c]⟩) (.str b) H Q := ⟨c, b, rfl, rfl, q⟩
theorem u_niS (q : Q (.bl (!decide (c ∈ b.cps.toList))) H) : rNiS (.str ⟨#[c]⟩) (.str b) H Q := ⟨c, b, rfl, rfl, q⟩
theorem u_isNn (q : Q (.bl true) H) : rIsN .non .non H Q := ⟨rfl, q⟩
theorem u_isNr {p : Addr} (q : Q (.bl false) H) : rIsN (.ref p) .non H Q := ⟨rfl, q⟩
theorem u_repS (h0 : -100000 ≤ i) (h1 : i ≤ 100000) (q : Q (.str (Txt.mul ⟨#[c]⟩ i)) H) : rRepS (.str ⟨#[c]⟩) (.int i) H Q := ⟨c, i, rfl, rfl, h0, h1, q⟩
theorem u_ixS (ha : a.length ≤ 100000) (h0 : 0 ≤ i) (h1 : i < a.length) (k : ∀ c, atI a.cps.toList i = some c → Q (.str ⟨#[c]⟩) H) : rIxS (.str a) (.int i) H Q := by
  have h2 : i < (a.cps.toList.length : Int) := by rw [Array.length_toList]; exact h1
  obtain ⟨n, rfl⟩ : ∃ n : Nat, i = (n : Int) := ⟨i.toNat, by omega⟩
  have hn : n < a.cps.toList.length := by omega
  have e : atI a.cps.toList (n : Int) = some a.cps.toList[n] := atI_nat (List.getElem?_eq_getElem hn)
  exact ⟨a, n, _, rfl, rfl, sl5 ha, e, k _ e⟩
theorem u_slX {lo hi : Option Int} (ha : a.length ≤ 100000) (q : Q (.str (Txt.slice a lo hi)) H) : C8.rSlX (.str a) lo hi H Q := ⟨a, rfl, sl5 ha, q⟩
def ItSq (x : V) (R : It → Hp → Prop) (H : Hp) : Prop := ∃ z, x = .str z ∧ R (Its z) H
theorem u_iS {tl : TE} {R : It → Hp → Prop} (h : tl σ H fun x H1 => ItSq x R H1) : iStr tl σ H R := h
theorem u_iSq {R : It → Hp → Prop} (q : R (Its a) H) : ItSq (.str a) R H := ⟨a, rfl, q⟩
theorem l_str {g : TG} {tb : TS} {D : Ends} (Pv : Nat → L2.St → Hp → Prop) (h0 : Pv 0 σ H)
    (hs : ∀ i c σ H, a.cps.toList[i]? = some c → Pv i σ H → g (.str ⟨#[c]⟩) σ H fun σ2 H2 => tb { D with nx := Pv (i + 1), ct := Pv (i + 1), bk := D.nx } σ2 H2) (hd : ∀ σ H, Pv a.cps.toList.length σ H → D.nx σ H) : LoopQ (Its a) g tb D σ H := by
  have hsz : a.cps.toList.length = a.cps.size := Array.length_toList
  refine ⟨fun i m σ H => m = a.cps.toList.length - i ∧ i ≤ a.cps.toList.length ∧ Pv i σ H, ⟨_, rfl, Nat.zero_le _, h0⟩, ?_⟩
  rintro i m σ H ⟨rfl, hi, p⟩
  by_cases hlt : i < a.cps.toList.length
  · refine .inr ⟨(by show i < a.cps.size; omega), Pv (i + 1), fun σ' H' p' => ⟨a.cps.toList.length - (i + 1), by omega, rfl, hlt, p'⟩, ?_⟩
    rintro x H' ⟨rfl, c, hc, rfl⟩
    exact hs i c σ _ (by rw [← hc, Array.getElem?_toList]) p
  · obtain rfl : i = a.cps.toList.length := by omega
    exact .inl ⟨by show a.cps.size ≤ _; omega, hd σ H p⟩
/-! f-strings -/
def JsQ (x : V) (acc : Str) (H : Hp) (R : Str → Prop) : Prop := ∃ y : Str, x = .str y ∧ (acc ++ y).length ≤ sizeLine ∧ R (acc ++ y)
theorem js_nil {acc : Str} {Q : Str → Hp → Prop} (q : Q acc H) : tJs [] acc σ H Q := q
theorem js_cons {t : TE} {ts : List TE} {acc : Str} {Q : Str → Hp → Prop} (h : t σ H fun x H1 => JsQ x acc H1 fun out => tJs ts out σ H1 Q) : tJs (t :: ts) acc σ H Q := h
theorem jsQ {acc y : Str} {R : Str → Prop} (h : acc.length + y.length ≤ 100000) (q : R (acc ++ y)) : JsQ (.str y) acc H R := ⟨y, rfl, by rw [Str.length_append]; exact sl5 h, q⟩
def tJoin (ts : List TE) : TE := fun σ H Q => tJs ts Str.empty σ H fun out H1 => Q (.str out) H1
theorem u_join {ts : List TE} (h : tJs ts Str.empty σ H fun out H1 => Q (.str out) H1) : tJoin ts σ H Q := h
theorem pe_join {X : Cx} {v1 v2 : Expr} {rest : List Expr} {ts : List TE} {pos : Pos} (h : PJ X (v1 :: v2 :: rest) ts) : PE X (.JoinedStr (v1 :: v2 :: rest) pos) (tJoin ts) := pe_joined h
def FmtQ (x : V) (H : Hp) (Q : VK) : Prop := (∃ y : Str, x = .str y ∧ y.length ≤ sizeLine ∧ Q (.str y) H) ∨ ∃ i : Int, x = .int i ∧ i.natAbs.log2 < 1920 ∧ Q (.str (toString i)) H
theorem u_fmt {te : TE} (h : te σ H fun x H1 => FmtQ x H1 Q) : tFmt te σ H Q := h
theorem fmtI (h : i.natAbs.log2 < 1920) (q : Q (.str (toString i)) H) : FmtQ (.int i) H Q := .inr ⟨i, rfl, h, q⟩
theorem fmtS (h : a.length ≤ 100000) (q : Q (.str a) H) : FmtQ (.str a) H Q := .inl ⟨a, rfl, sl5 h, q⟩
/-! static methods, str of own -/
theorem u_sm {C : Addr} {sp : Sp} {E : L2.St → XK} {ta : TE} {t : TA} (h : ta σ H fun x H1 => x = .ref C ∧ t σ H1 fun vs H2 => sp vs H2 Q (E σ)) : tSm C sp E ta t σ H Q := h
def SmQ (C : Addr) (x : V) (R : Prop) : Prop := x = .ref C ∧ R
theorem u_smQ {C : Addr} {sp : Sp} {E : L2.St → XK} {ta : TE} {t : TA} (h : ta σ H fun x H1 => SmQ C x (t σ H1 fun vs H2 => sp vs H2 Q (E σ))) : tSm C sp E ta t σ H Q := h
theorem smQ {C : Addr} {R : Prop} (q : R) : SmQ C (.ref C) R := ⟨rfl, q⟩
theorem u_smI {C : Addr} {m : Str} {sp : Sp} {E : L2.St → XK} {ta : TE} {t : TA} (h : ta σ H fun x H1 => MethQ C m x H1 (t σ H1 fun vs H2 => sp vs H2 Q (E σ))) : tSmI C m sp E ta t σ H Q := h
end
section
variable {X : Cx} {H : Hp} {Q : VK}
theorem o_catL : OpR X (binaryOp .Add) rCat := op_cat
theorem u_catL {l m : Addr} {xs zs : List V} (h1 : H l = some (.lst xs)) (h2 : H m = some (.lst zs)) (hz : xs.length + zs.length ≤ 100000) (k : ∀ p H', H p = none → Kp [] H H' → H' p = some (.lst (xs ++ zs)) → Q (.ref p) H') : rCat (.ref l) (.ref m) H Q :=
  ⟨l, m, xs, zs, rfl, rfl, h1, h2, sl5 hz, fun p hp => k p _ hp (Kp.new hp) upd_same⟩
end
/-- a static method: found off the class and off an instance, and its promise -/
def NcSm (P : Program) (w : World) (K : PySem.W.Frag) (mg : Str → Option Value) (base : Heap) (CX : CXT) (k : Nat) (C : Addr) (m : Str) (ps : List Str) (sp : Sp) : Prop :=
  ∃ p g fd, SmC K C (.type "type") m p g ∧ SmI K C m p g ∧ PySem.W.keepIn K (.ref g) = true ∧ FnOk P w K mg base CX k g fd ps sp ∧ Binds K fd ps []
section
variable {X : Cx} {CX : CXT} {k : Nat} {C : Addr} {ps : List Str} {sp : Sp} {E : L2.St → XK} {o e : Expr} {es : List Expr} {m : Str} {pos apos : Pos} {ta : TE} {t : TA}
theorem pe_smN {pl : Sem Bool} (F : NcSm X.prog X.w X.K X.mg X.base CX k C m ps sp) (hx : ∀ σ, PassesAt CX X σ (E σ)) (hr : Room k X.A) (he : PE X o ta) (ha : PA X (e :: es) t)
    (hst : starEach (e :: es) X.env = (false, eval e X.env) :: starEach es X.env := by rfl) (hpl : (backTo pos (starEach es X.env)).any (·.1) = false := by rfl)
    (ht : eval (.Call (.Attribute o m apos) (e :: es) [] pos) X.env = (do
      let ov ← eval o X.env
      standAt apos.atName
      let (f, first) ← holding [ov] (getMethod ov m pl)
      callWith pos f first (backTo pos (starEach (e :: es) X.env)) (backToKw pos (keywordEach [] X.env))) := by rfl) :
    PE X (.Call (.Attribute o m apos) (e :: es) [] pos) (tSm C sp E ta t) := by
  obtain ⟨p, g, fd, S, _, hk, F, b⟩ := F
  exact pe_sm (pl := pl) S F hk b hx hr he ha hst hpl ht
theorem pe_smJ {pl : Sem Bool} (F : NcSm X.prog X.w X.K X.mg X.base CX k C m ps sp) (hx : ∀ σ, PassesAt CX X σ (E σ)) (hr : Room k X.A) (he : PE X o ta) (ha : PA X (e :: es) t)
    (hst : starEach (e :: es) X.env = (false, eval e X.env) :: starEach es X.env := by rfl) (hpl : (backTo pos (starEach es X.env)).any (·.1) = false := by rfl)
    (ht : eval (.Call (.Attribute o m apos) (e :: es) [] pos) X.env = (do
      let ov ← eval o X.env
      standAt apos.atName
      let (f, first) ← holding [ov] (getMethod ov m pl)
      callWith pos f first (backTo pos (starEach (e :: es) X.env)) (backToKw pos (keywordEach [] X.env))) := by rfl) :
    PE X (.Call (.Attribute o m apos) (e :: es) [] pos) (tSmI C m sp E ta t) := by
  obtain ⟨p, g, fd, _, S, hk, F, b⟩ := F
  exact pe_smI (pl := pl) S F hk b hx hr he ha hst hpl ht
end
end U

set_option Elab.async false
set_option linter.all false
set_option autoImplicit false
set_option maxRecDepth 100000
set_option maxHeartbeats 4000000
namespace Tx
open PySem PySem.Spec PyProof.Rows C8 SX
abbrev Dg (l : List Nat) : Prop := ∀ c ∈ l, 48 ≤ c ∧ c ≤ 57
/-- digits as a number is written -/
def Canon (l : List Nat) : Prop := l ≠ [] ∧ Dg l ∧ (1 < l.length → l.head? ≠ some 48)
theorem dg_num (n : Nat) : Dg (TL.numL n) := TL.numL_digits n
theorem val_snoc (l : List Nat) (c : Nat) : NumText.digitsVal (l ++ [c]) = NumText.digitsVal l * 10 + (c - 48) := by
  unfold NumText.digitsVal
  rw [List.foldl_append]
  rfl
theorem num_head : ∀ n : Nat, 1 ≤ n → (TL.numL n).head? ≠ some 48 := by
  intro n
  induction n using Nat.strongRecOn with
  | _ n ih =>
    intro h
    by_cases h10 : n < 10
    · rw [TL.numL_lt h10]
      simp
      omega
    · rw [TL.numL_step (by omega)]
      have i := ih (n / 10) (by omega) (by omega)
      cases e : TL.numL (n / 10) with
      | nil => exact absurd e (TL.numL_ne _)
      | cons a r => rw [e] at i; simpa using i
theorem canon_num (n : Nat) : Canon (TL.numL n) := by
  refine ⟨TL.numL_ne n, dg_num n, fun h => ?_⟩
  by_cases h0 : n = 0
  · subst h0
    rw [TL.numL_lt (by decide)] at h
    simp at h
  · exact num_head n (by omega)
theorem num_back : ∀ (k : Nat) (l : List Nat), l.length = k → Canon l → TL.numL (NumText.digitsVal l) = l := by
  intro k
  induction k with
  | zero => intro l hl h; exact absurd (List.eq_nil_of_length_eq_zero hl) h.1
  | succ k ih =>
    intro l hl h
    obtain ⟨l', c, rfl⟩ : ∃ l' c, l = l' ++ [c] := ⟨l.dropLast, l.getLast h.1, (List.dropLast_concat_getLast h.1).symm⟩
    have hc := h.2.1 c (by simp)
    rw [val_snoc]
    by_cases h0 : l' = []
    · subst h0
      have e : NumText.digitsVal [] = 0 := rfl
      rw [e, Nat.zero_mul, Nat.zero_add, TL.numL_lt (by omega)]
      simp
      omega
    · have hl' : l'.length = k := by simp at hl; omega
      have hd : (l' ++ [c]).head? = l'.head? := by
        cases l' with
        | nil => exact absurd rfl h0
        | cons a r => rfl
      have h1 : 1 < (l' ++ [c]).length := by
        have := List.length_pos_iff.mpr h0
        simp; omega
      have hn := h.2.2 h1
      rw [hd] at hn
      have i := ih l' hl' ⟨h0, fun x hx => h.2.1 x (by simp [hx]), fun _ => hn⟩
      have v1 : 1 ≤ NumText.digitsVal l' := by
        rcases Nat.eq_zero_or_pos (NumText.digitsVal l') with z | z
        · rw [z, TL.numL_lt (by decide)] at i
          rw [← i] at hn
          exact absurd rfl hn
        · exact z
      rw [TL.numL_step (by omega)]
      have e1 : (NumText.digitsVal l' * 10 + (c - 48)) / 10 = NumText.digitsVal l' := by omega
      have e2 : 48 + (NumText.digitsVal l' * 10 + (c - 48)) % 10 = c := by omega
      rw [e1, e2, i]
theorem num_of {l : List Nat} (h : Canon l) : TL.numL (NumText.digitsVal l) = l := num_back _ l rfl h
/-- an integer, written -/
def iL (i : Int) : List Nat := if i < 0 then 45 :: TL.numL i.natAbs else TL.numL i.natAbs
theorem str_int (i : Int) : Str.ofString (toString i) = S (iL i) := by
  unfold iL
  by_cases h : i < 0
  · rw [if_pos h]
    obtain ⟨n, rfl⟩ : ∃ n, i = Int.negSucc n := ⟨i.natAbs - 1, by omega⟩
    apply TL.ext_tl
    rw [TL.tl_ofString]
    show ("-" ++ Nat.repr (n + 1)).toList.map Char.toNat = _
    rw [String.toList_append, List.map_append, Nat.toList_repr]
    rfl
  · rw [if_neg h]
    obtain ⟨n, rfl⟩ := Int.eq_ofNat_of_zero_le (show 0 ≤ i by omega)
    exact num_S n
theorem num_inj {m n : Nat} (h : TL.numL m = TL.numL n) : m = n := TL.numL_inj h
theorem free47 (n : Nat) : 47 ∉ TL.numL n := TL.numL_free (by omega)
theorem free45 (n : Nat) : 45 ∉ TL.numL n := TL.numL_free (by omega)
theorem iL_free (i : Int) : 47 ∉ iL i := by
  unfold iL
  split
  · simp [free47]
  · exact free47 _
theorem iL_inj {i j : Int} (h : iL i = iL j) : i = j := by
  unfold iL at h
  split at h <;> split at h
  · have := num_inj (List.cons.inj h).2; omega
  · exact absurd (h ▸ List.mem_cons_self : 45 ∈ TL.numL j.natAbs) (free45 _)
  · exact absurd (h.symm ▸ List.mem_cons_self : 45 ∈ TL.numL i.natAbs) (free45 _)
  · have := num_inj h; omega
/-- the text of a share -/
def shL (t b : Int) : List Nat := iL t ++ 47 :: iL b
theorem app47 {p q p' q' : List Nat} (h1 : 47 ∉ p) (h2 : 47 ∉ p') (h : p ++ 47 :: q = p' ++ 47 :: q') : p = p' ∧ q = q' := by
  have e1 := par_head (c := 47) (sep := []) (p := p) q h1
  have e2 := par_head (c := 47) (sep := []) (p := p') q' h2
  have h' : p ++ ([47] ++ q) = p' ++ ([47] ++ q') := h
  rw [h', e2] at e1
  cases e1
  exact ⟨rfl, rfl⟩
theorem shL_inj {t b t' b' : Int} (h : shL t b = shL t' b') : t = t' ∧ b = b' := by
  obtain ⟨h1, h2⟩ := app47 (iL_free t) (iL_free t') h
  exact ⟨iL_inj h1, iL_inj h2⟩
/-- a text that a share is written by -/
def Good (a : List Nat) (t b : Int) : Prop := a = shL t b ∧ 1 ≤ b ∧ Nat.gcd t.natAbs b.natAbs = 1 ∧ (TL.numL t.natAbs).length ≤ 60 ∧ (TL.numL b.natAbs).length ≤ 60
theorem Good.uniq {a : List Nat} {t b t' b' : Int} (h : Good a t b) (h' : Good a t' b') : t = t' ∧ b = b' := shL_inj (h.1.symm.trans h'.1)
/-! ## what the words do -/
def isDg (l : List Nat) : Bool := decide (l ≠ []) && l.all fun c => decide (48 ≤ c ∧ c ≤ 57)
theorem isDg_iff {l : List Nat} : isDg l = true ↔ l ≠ [] ∧ Dg l := by
  unfold isDg
  rw [Bool.and_eq_true, decide_eq_true_iff, List.all_eq_true]
  simp only [decide_eq_true_iff]
theorem ascii_S (l : List Nat) : Txt.isascii (S l) = l.all (fun c => decide (c < 128)) := by
  unfold Txt.isascii
  simp [S]
theorem digit_S {l : List Nat} (h : l.all (fun c => decide (c < 128)) = true) : Txt.isdigit (S l) = isDg l := by
  unfold Txt.isdigit isDg
  have e1 : decide ((S l).length > 0) = decide (l ≠ []) := by
    rw [S_len]
    refine decide_eq_decide.mpr ?_
    cases l <;> simp
  have e2 : (S l).cps.all Unicode.isDigit = l.all fun c => decide (48 ≤ c ∧ c ≤ 57) := by
    show l.toArray.all Unicode.isDigit = _
    rw [List.all_toArray]
    rw [Bool.eq_iff_iff, List.all_eq_true, List.all_eq_true]
    rw [List.all_eq_true] at h
    have d : ∀ c, c < 128 → Unicode.isDigit c = decide (48 ≤ c ∧ c ≤ 57) := by decide +kernel
    constructor
    · intro g c hc
      have := h c hc
      rw [← d c (by simpa using this)]
      exact g c hc
    · intro g c hc
      have := h c hc
      rw [d c (by simpa using this)]
      exact g c hc
  rw [← e1, ← e2]
theorem split47 (a : List Nat) : (47 ∉ a) ∨ ∃ p q, a = p ++ 47 :: q ∧ 47 ∉ p := by
  induction a with
  | nil => exact .inl (by simp)
  | cons c r ih =>
    by_cases h : c = 47
    · exact .inr ⟨[], r, by rw [h]; rfl, by simp⟩
    · rcases ih with i | ⟨p, q, e, n⟩
      · exact .inl (by simp [i]; omega)
      · exact .inr ⟨c :: p, q, by rw [e]; rfl, by simp [n]; omega⟩
theorem pre47 {l : List Nat} : TL.pre [47] l = true ↔ l.head? = some 47 := by
  unfold TL.pre
  cases l with
  | nil => simp
  | cons c r => simp
theorem drop_head (a : List Nat) (i : Nat) : (a.drop i).head? = a[i]? := by
  rw [List.head?_drop]
theorem find_none {a : List Nat} (h : 47 ∉ a) : Txt.find (S a) (S [47]) = -1 := by
  rcases find_whole (S a) (S [47]) with ⟨e, _⟩ | ⟨i, _, at_, _⟩
  · exact e
  · exfalso
    have := (TL.at_iff (x := S a) (y := S [47]) (by show [47] ≠ []; simp) i).mp at_
    have q := pre47.mp this
    rw [show (TL.tl (S a)) = a from rfl, drop_head] at q
    exact h (List.mem_of_getElem? q)
theorem find_at {p q : List Nat} (h : 47 ∉ p) : Txt.find (S (p ++ 47 :: q)) (S [47]) = (p.length : Int) := by
  have hit : (p ++ 47 :: q)[p.length]? = some 47 := by simp
  have iff : ∀ i, StrLaws.At (S (p ++ 47 :: q)) (S [47]) (S (p ++ 47 :: q)).length i ↔ (p ++ 47 :: q)[i]? = some 47 := fun i =>
    (TL.at_iff (x := S (p ++ 47 :: q)) (y := S [47]) (by show [47] ≠ []; simp) i).trans (pre47.trans (by rw [show (TL.tl (S (p ++ 47 :: q))) = p ++ 47 :: q from rfl, drop_head]))
  rcases find_whole (S (p ++ 47 :: q)) (S [47]) with ⟨_, no⟩ | ⟨i, e, at_, no⟩
  · exact absurd ((iff _).mpr hit) (no _)
  · rw [e]
    have g := (iff i).mp at_
    rcases Nat.lt_trichotomy i p.length with l | l | l
    · rw [List.getElem?_append_left l] at g
      exact absurd (List.mem_of_getElem? g) h
    · rw [l]
    · exact absurd ((iff _).mpr hit) (no _ l)
/-- without the minus ahead -/
def noM (a : List Nat) : List Nat := if a.head? = some 45 then a.tail else a
theorem rmp (a : List Nat) : Txt.removeprefix (S a) (S [45]) = S (noM a) := by
  rw [StrLaws.removeprefix_eq]
  have l1 : (S [45]).length = 1 := rfl
  have sb : Builtin.Str.subAt (S a) (S [45]) 0 = decide (a.take 1 = [45]) := by
    unfold Builtin.Str.subAt
    rw [l1]
    show (a.toArray.extract 0 (0 + 1) == #[45]) = _
    rw [List.extract_toArray]
    rw [Bool.eq_iff_iff, beq_iff_eq, decide_eq_true_iff]
    simp [List.extract_eq_take_drop]
  rw [sb, l1, S_len]
  unfold noM
  cases a with
  | nil => rfl
  | cons c r =>
    by_cases h : c = 45
    · subst h
      simp [S]
    · simp [h, S]
/-- a minus or none, digits -/
theorem int_of {l : List Nat} (h : l ≠ []) (d : Dg l) (n : l.length ≤ 60) : intText? (S l) = some ((NumText.digitsVal l : Nat) : Int) :=
  intText_digits (x := S l) d h (by rw [S_len]; omega)
theorem int_neg {l : List Nat} (h : l ≠ []) (d : Dg l) (n : l.length ≤ 60) : intText? (S (45 :: l)) = some (-((NumText.digitsVal l : Nat) : Int)) :=
  intText_neg (x := S (45 :: l)) (cs := l) rfl d h (by rw [S_len]; simp; omega)
theorem noM_iL (t : Int) : noM (iL t) = TL.numL t.natAbs := by
  unfold iL noM
  split
  · simp
  · rw [if_neg]
    intro z
    exact free45 t.natAbs (List.mem_of_mem_head? z)
theorem int_iL {t : Int} (n : (TL.numL t.natAbs).length ≤ 60) : intText? (S (iL t)) = some t := by
  unfold iL
  split
  · rw [int_neg (TL.numL_ne _) (dg_num _) n, TL.numL_val]
    congr 1; omega
  · rw [int_of (TL.numL_ne _) (dg_num _) n, TL.numL_val]
    congr 1; omega
/-- the program's parts: a top and a bottom that are numbers -/
theorem int_any {p : List Nat} (h : noM p ≠ []) (d : Dg (noM p)) (n : (noM p).length ≤ 60) : ∃ i : Int, intText? (S p) = some i ∧ i.natAbs = NumText.digitsVal (noM p) := by
  unfold noM at h d n ⊢
  split at h
  · rename_i z
    rw [if_pos z] at d n ⊢
    cases p with
    | nil => simp at z
    | cons c r =>
      have hc : c = 45 := by simpa using z
      subst hc
      refine ⟨_, int_neg h d n, by simp⟩
  · rename_i z
    rw [if_neg z] at d n ⊢
    exact ⟨_, int_of h d n, by simp⟩
theorem val_lt : ∀ (k : Nat) (l : List Nat), l.length = k → Dg l → NumText.digitsVal l < 10 ^ k := by
  intro k
  induction k with
  | zero => intro l hl _; rw [List.eq_nil_of_length_eq_zero hl]; decide
  | succ k ih =>
    intro l hl d
    have hn : l ≠ [] := by intro z; rw [z] at hl; cases hl
    obtain ⟨l', c, rfl⟩ : ∃ l' c, l = l' ++ [c] := ⟨l.dropLast, l.getLast hn, (List.dropLast_concat_getLast hn).symm⟩
    have h1 := ih l' (by simp at hl; omega) fun x hx => d x (by simp [hx])
    have h2 := d c (by simp)
    rw [val_snoc, Nat.pow_succ]
    omega
end Tx

set_option Elab.async false
set_option linter.all false
set_option autoImplicit false
set_option maxRecDepth 100000
set_option maxHeartbeats 4000000
namespace U
open PySem PySem.Spec PyProof.Rows L2
/-! # data at values: numbers, texts, tuples of them -/
def TupAt (K : PySem.W.Frag) (H : Hp) (a : Addr) (xs : List V) : Prop := H a = some (.tup xs)
theorem TupAt.sq {K : PySem.W.Frag} {H : Hp} {a : Addr} {xs : List V} (h : TupAt K H a xs) : SqT K H a xs := by
  exact .of h
/-- tuples stand, and so do the things in Z -/
def Im (Z : List Addr) (H H' : Hp) : Prop := (∀ a xs, H a = some (.tup xs) → H' a = some (.tup xs)) ∧ ∀ a ∈ Z, ∀ o, H a = some o → H' a = some o
theorem Kp.im {Z : List Addr} {H H' : Hp} (k : Kp [] H H') : Im Z H H' := ⟨fun a xs e => k.get0 e, fun a _ o e => k.get0 e⟩
theorem Kp.imN {Z N : List Addr} {H H' : Hp} (k : Kp N H H') (n : ∀ a ∈ N, ∀ xs, H a ≠ some (.tup xs)) (nz : ∀ a ∈ N, a ∉ Z) : Im Z H H' :=
  ⟨fun a xs e => k a _ (fun z => n a z xs e) e, fun a ha o e => k a _ (fun z => nz a z ha) e⟩
mutual
inductive Dt (K : PySem.W.Frag) (Z : List Addr) (H : Hp) : V → PyData → Prop
  | non : Dt K Z H .non .none
  | bl (b : Bool) : Dt K Z H (.bl b) (.bool b)
  | int (i : Int) : Dt K Z H (.int i) (.int i)
  | str (x : Str) : Dt K Z H (.str x) (.str x)
  | tup {a : Addr} {xs : List V} {ds : List PyData} : TupAt K H a xs → Dts K Z H xs ds → Dt K Z H (.ref a) (.tuple ds)
  | lst {a : Addr} {xs : List V} {ds : List PyData} : a ∈ Z → H a = some (.lst xs) → Dts K Z H xs ds → Dt K Z H (.ref a) (.list ds)
inductive Dts (K : PySem.W.Frag) (Z : List Addr) (H : Hp) : List V → List PyData → Prop
  | nil : Dts K Z H [] []
  | cons {v : V} {vs : List V} {d : PyData} {ds : List PyData} : Dt K Z H v d → Dts K Z H vs ds → Dts K Z H (v :: vs) (d :: ds)
end
section
variable {K : PySem.W.Frag} {Z Z' : List Addr} {H H' : Hp}
mutual
theorem Dt.im (i : Im Z H H') : ∀ (d : PyData) (v : V), Dt K Z H v d → Dt K Z H' v d
  | .none, _, h => by cases h; exact .non
  | .bool _, _, h => by cases h; exact .bl _
  | .int _, _, h => by cases h; exact .int _
  | .str _, _, h => by cases h; exact .str _
  | .list ds, _, h => by
    cases h with
    | lst z t a => exact .lst z (i.2 _ z _ t) (Dts.im i ds _ a)
  | .tuple ds, _, h => by
    cases h with
    | tup t a =>
      exact .tup (i.1 _ _ t) (Dts.im i ds _ a)
  | .dict _, _, h => by cases h
theorem Dts.im (i : Im Z H H') : ∀ (ds : List PyData) (vs : List V), Dts K Z H vs ds → Dts K Z H' vs ds
  | [], _, h => by cases h; exact .nil
  | d :: ds, _, h => by
    cases h with
    | cons h1 h2 => exact .cons (Dt.im i d _ h1) (Dts.im i ds _ h2)
end
mutual
theorem Dt.zs (i : Z ⊆ Z') : ∀ (d : PyData) (v : V), Dt K Z H v d → Dt K Z' H v d
  | .none, _, h => by cases h; exact .non
  | .bool _, _, h => by cases h; exact .bl _
  | .int _, _, h => by cases h; exact .int _
  | .str _, _, h => by cases h; exact .str _
  | .list ds, _, h => by
    cases h with
    | lst z t a => exact .lst (i z) t (Dts.zs i ds _ a)
  | .tuple ds, _, h => by
    cases h with
    | tup t a => exact .tup t (Dts.zs i ds _ a)
  | .dict _, _, h => by cases h
theorem Dts.zs (i : Z ⊆ Z') : ∀ (ds : List PyData) (vs : List V), Dts K Z H vs ds → Dts K Z' H vs ds
  | [], _, h => by cases h; exact .nil
  | d :: ds, _, h => by
    cases h with
    | cons h1 h2 => exact .cons (Dt.zs i d _ h1) (Dts.zs i ds _ h2)
end
mutual
theorem Dt.dp : ∀ (d : PyData) (v : V), Dt K Z H v d → Dp K H v d
  | .none, _, h => by cases h; exact .non
  | .bool _, _, h => by cases h; exact .bl _
  | .int _, _, h => by cases h; exact .int _
  | .str _, _, h => by cases h; exact .str _
  | .list ds, _, h => by
    cases h with
    | lst z t a => exact .lst (sql t) (Dts.dp ds _ a)
  | .tuple ds, _, h => by
    cases h with
    | tup t a => exact .tup t.sq (Dts.dp ds _ a)
  | .dict _, _, h => by cases h
theorem Dts.dp : ∀ (ds : List PyData) (vs : List V), Dts K Z H vs ds → DpAll K H vs ds
  | [], _, h => by cases h; exact .nil
  | d :: ds, _, h => by
    cases h with
    | cons h1 h2 => exact .cons (Dt.dp d _ h1) (Dts.dp ds _ h2)
end
mutual
theorem Dt.plain : ∀ (d : PyData) (v : V), Dt K Z H v d → d.plain = true
  | .none, _, h => rfl
  | .bool _, _, h => rfl
  | .int _, _, h => rfl
  | .str _, _, h => rfl
  | .list ds, _, h => by
    cases h with
    | lst z t a => unfold PyData.plain; exact Dts.plain ds _ a
  | .tuple ds, _, h => by
    cases h with
    | tup t a => unfold PyData.plain; exact Dts.plain ds _ a
  | .dict _, _, h => by cases h
theorem Dts.plain : ∀ (ds : List PyData) (vs : List V), Dts K Z H vs ds → PyData.plainAll ds = true
  | [], _, h => rfl
  | d :: ds, _, h => by
    cases h with
    | cons h1 h2 => unfold PyData.plainAll; rw [Dt.plain d _ h1, Dts.plain ds _ h2]; rfl
end
theorem Dts.length {vs : List V} {ds : List PyData} (h : Dts K Z H vs ds) : vs.length = ds.length := by
  induction ds generalizing vs with
  | nil => cases h; rfl
  | cons d ds ih => cases h with | cons h1 h2 => simp [ih h2]
theorem Dts.at {vs : List V} {ds : List PyData} (h : Dts K Z H vs ds) {i : Nat} {d : PyData} (e : ds[i]? = some d) : ∃ v, vs[i]? = some v ∧ Dt K Z H v d := by
  induction ds generalizing vs i with
  | nil => cases e
  | cons d' ds ih =>
    cases h with
    | cons h1 h2 =>
      cases i with
      | zero => cases e; exact ⟨_, rfl, h1⟩
      | succ i => exact ih h2 e
theorem Dts.at' {vs : List V} {ds : List PyData} (h : Dts K Z H vs ds) {i : Nat} {v : V} (e : vs[i]? = some v) : ∃ d, ds[i]? = some d ∧ Dt K Z H v d := by
  have hl : i < ds.length := by rw [← h.length]; exact (List.getElem?_eq_some_iff.mp e).1
  obtain ⟨v', e', q⟩ := h.at (List.getElem?_eq_getElem hl)
  rw [e] at e'
  cases e'
  exact ⟨_, List.getElem?_eq_getElem hl, q⟩
theorem Dts.atI {vs : List V} {ds : List PyData} (h : Dts K Z H vs ds) {i : Int} {d : PyData} (e : L2.atI ds i = some d) : ∃ v, L2.atI vs i = some v ∧ Dt K Z H v d := by
  unfold L2.atI at e ⊢
  rw [h.length]
  cases hc : L2.ixN ds.length i with
  | none => rw [hc] at e; cases e
  | some j => rw [hc] at e; exact h.at e
theorem Dts.append {vs ws : List V} {ds es : List PyData} (h : Dts K Z H vs ds) (h' : Dts K Z H ws es) : Dts K Z H (vs ++ ws) (ds ++ es) := by
  induction ds generalizing vs with
  | nil => cases h; exact h'
  | cons d ds ih => cases h with | cons h1 h2 => exact .cons h1 (ih h2)
theorem Dts.take {vs : List V} {ds : List PyData} (h : Dts K Z H vs ds) (n : Nat) : Dts K Z H (vs.take n) (ds.take n) := by
  induction ds generalizing vs n with
  | nil => cases h; simp; exact .nil
  | cons d ds ih =>
    cases h with
    | cons h1 h2 =>
      cases n with
      | zero => exact .nil
      | succ n => exact .cons h1 (ih h2 n)
theorem Dts.drop {vs : List V} {ds : List PyData} (h : Dts K Z H vs ds) (n : Nat) : Dts K Z H (vs.drop n) (ds.drop n) := by
  induction ds generalizing vs n with
  | nil => cases h; simp; exact .nil
  | cons d ds ih =>
    cases h with
    | cons h1 h2 =>
      cases n with
      | zero => exact .cons h1 h2
      | succ n => exact ih h2 n
theorem Dts.set {vs : List V} {ds : List PyData} (h : Dts K Z H vs ds) {v : V} {d : PyData} (n : Nat) (hv : Dt K Z H v d) : Dts K Z H (vs.set n v) (ds.set n d) := by
  induction ds generalizing vs n with
  | nil => cases h; exact .nil
  | cons d ds ih =>
    cases h with
    | cons h1 h2 =>
      cases n with
      | zero => exact .cons hv h2
      | succ n => exact .cons h1 (ih h2 n)
theorem Dts.ints (ns : List Int) : Dts K Z H (ns.map V.int) (ns.map PyData.int) := by
  induction ns with
  | nil => exact .nil
  | cons n r ih => exact .cons (.int n) ih
theorem Dt.int_inv {v : V} {i : Int} (h : Dt K Z H v (.int i)) : v = .int i := by cases h; rfl
theorem Dt.str_inv {v : V} {x : Str} (h : Dt K Z H v (.str x)) : v = .str x := by cases h; rfl
theorem Dt.bl_inv {v : V} {b : Bool} (h : Dt K Z H v (.bool b)) : v = .bl b := by cases h; rfl
theorem Dt.non_inv {v : V} (h : Dt K Z H v .none) : v = .non := by cases h; rfl
theorem Dt.tup_inv {v : V} {ds : List PyData} (h : Dt K Z H v (.tuple ds)) : ∃ a xs, v = .ref a ∧ TupAt K H a xs ∧ Dts K Z H xs ds := by
  cases h with
  | tup t a => exact ⟨_, _, rfl, t, a⟩
theorem Dt.lst_inv {v : V} {ds : List PyData} (h : Dt K Z H v (.list ds)) : ∃ a xs, v = .ref a ∧ a ∈ Z ∧ H a = some (.lst xs) ∧ Dts K Z H xs ds := by
  cases h with
  | lst z t a => exact ⟨_, _, rfl, z, t, a⟩
end
/-! # what a heap holds, in one sentence -/
structure Ent where
  tag : Nat
  foot : List Addr
  w : Bool
  P : List Addr → Hp → Prop
  loc : ∀ Z H H', P Z H → (∀ a ∈ foot, H' a = H a) → Im Z H H' → P Z H'
  zs : ∀ Z Z' H, Z ⊆ Z' → P Z H → P Z' H
  live : ∀ Z H, P Z H → ∀ a ∈ foot, ∃ o, H a = some o
theorem one_mem {a b : Addr} (h : b ∈ [a]) : b = a := by simpa using h
/-- one object -/
def Ent.obj (a : Addr) (o : HO) (w : Bool) : Ent := ⟨0, [a], w, fun _ H => H a = some o, fun Z H H' h e _ => by rw [e a (by simp)]; exact h, fun _ _ _ _ h => h, fun Z H h b hb => by rw [one_mem hb]; exact ⟨_, h⟩⟩
/-- a list of data -/
def DL (K : PySem.W.Frag) (Z : List Addr) (H : Hp) (a : Addr) (ds : List PyData) : Prop := ∃ xs, H a = some (.lst xs) ∧ Dts K Z H xs ds
def Ent.dl (K : PySem.W.Frag) (a : Addr) (ds : List PyData) (w : Bool) : Ent := ⟨1, [a], w, fun Z H => DL K Z H a ds, fun Z H H' ⟨xs, h, d⟩ e i => ⟨xs, by rw [e a (by simp)]; exact h, d.im i⟩, fun Z Z' H s ⟨xs, h, d⟩ => ⟨xs, h, d.zs s⟩, fun Z H ⟨xs, h, d⟩ b hb => by rw [one_mem hb]; exact ⟨_, h⟩⟩
/-- the pool -/
def Ent.pool (a : Addr) : Ent := ⟨2, [a], true, fun _ H => Pool H a, fun Z H H' ⟨c, x, n, k, h⟩ e _ => ⟨c, x, n, k, by rw [e a (by simp)]; exact h⟩, fun _ _ _ _ h => h, fun Z H ⟨c, x, n, k, h⟩ b hb => by rw [one_mem hb]; exact ⟨_, h⟩⟩
/-- the beginning: the heap, what may be written, what stood still -/
structure Bs where
  H0 : Hp
  W : List Addr
  Z0 : List Addr
structure Hs (K : PySem.W.Frag) (B : Bs) (Z : List Addr) (H : Hp) (L : List Ent) (M : List (List V × List PyData)) : Prop where
  kp : Kp B.W B.H0 H
  wl : ∀ a ∈ B.W, ∃ o, H a = some o
  zl : ∀ a ∈ Z, ∃ o, H a = some o
  nd : L.Pairwise fun x y => ∀ a ∈ x.foot, a ∉ y.foot
  zd : ∀ x ∈ L, ∀ a ∈ x.foot, a ∉ Z
  at_ : ∀ x ∈ L, x.P Z H
  wr : ∀ x ∈ L, x.w = true → ∀ a ∈ x.foot, a ∈ B.W ∨ B.H0 a = none
  dp : ∀ m ∈ M, Dts K Z H m.1 m.2
  zn : ∀ a ∈ Z, a ∈ B.Z0 ∨ a ∈ B.W ∨ B.H0 a = none
inductive Loc : List Ent → Ent → (Ent → List Ent) → Prop
  | here {e : Ent} {L : List Ent} : Loc (e :: L) e fun e' => e' :: L
  | there {x e : Ent} {L : List Ent} {F : Ent → List Ent} : Loc L e F → Loc (x :: L) e fun e' => x :: F e'
theorem Loc.split {L : List Ent} {e : Ent} {F : Ent → List Ent} (h : Loc L e F) : ∃ A B, L = A ++ e :: B ∧ ∀ e', F e' = A ++ e' :: B := by
  induction h with
  | here => exact ⟨[], _, rfl, fun _ => rfl⟩
  | there h ih =>
    obtain ⟨A, B, rfl, q⟩ := ih
    exact ⟨_ :: A, B, rfl, fun e' => by show _ :: _ = _; rw [q]; rfl⟩
theorem Loc.mem {L : List Ent} {e : Ent} {F : Ent → List Ent} (h : Loc L e F) : e ∈ L := by
  obtain ⟨A, B, rfl, _⟩ := h.split
  simp
theorem Loc.apart {R : Ent → Ent → Prop} {L : List Ent} {e e' : Ent} {F F' : Ent → List Ent} (h : Loc L e F) (h' : Loc L e' F') (p : L.Pairwise R) (n : e.tag ≠ e'.tag) : R e e' ∨ R e' e := by
  induction h generalizing F' with
  | here =>
    cases h' with
    | here => exact absurd rfl n
    | there h' => exact .inl ((List.pairwise_cons.mp p).1 _ h'.mem)
  | there h ih =>
    cases h' with
    | here => exact .inr ((List.pairwise_cons.mp p).1 _ h.mem)
    | there h' => exact ih h' (List.pairwise_cons.mp p).2 n
/-- without it -/
inductive Rem : List Ent → Ent → List Ent → Prop
  | here {e : Ent} {L : List Ent} : Rem (e :: L) e L
  | there {x e : Ent} {L L' : List Ent} : Rem L e L' → Rem (x :: L) e (x :: L')
theorem Rem.split {L L' : List Ent} {e : Ent} (h : Rem L e L') : ∃ A B, L = A ++ e :: B ∧ L' = A ++ B := by
  induction h with
  | here => exact ⟨[], _, rfl, rfl⟩
  | there h ih =>
    obtain ⟨A, B, rfl, rfl⟩ := ih
    exact ⟨_ :: A, B, rfl, rfl⟩
section
variable {K : PySem.W.Frag} {B : Bs} {H H' : Hp} {W Z Z' : List Addr} {L L' : List Ent} {M : List (List V × List PyData)} {e e' : Ent} {F : Ent → List Ent} {a p : Addr}
theorem Hs.get (h : Hs K B Z H L M) (l : Loc L e F) : e.P Z H := h.at_ e l.mem
theorem Hs.obj {o : HO} {w : Bool} (h : Hs K B Z H L M) (l : Loc L (.obj a o w) F) : H a = some o := h.get l
theorem Hs.dl {ds : List PyData} {w : Bool} (h : Hs K B Z H L M) (l : Loc L (.dl K a ds w) F) : DL K Z H a ds := h.get l
theorem Hs.pool (h : Hs K B Z H L M) (l : Loc L (.pool a) F) : Pool H a := h.get l
theorem Hs.nePool {ds : List PyData} {w : Bool} {F' : Ent → List Ent} (h : Hs K B Z H L M) (l : Loc L (.dl K p ds w) F) (l' : Loc L (.pool a) F') : p ≠ a := by
  rcases l.apart l' h.nd (by simp [Ent.dl, Ent.pool]) with q | q
  · intro z; exact q p (by simp [Ent.dl]) (by simp [Ent.pool, z])
  · intro z; exact q a (by simp [Ent.pool]) (by simp [Ent.dl, z])
theorem Hs.start (wl : ∀ a ∈ W, ∃ o, H a = some o) (zl : ∀ a ∈ Z, ∃ o, H a = some o) : Hs K ⟨H, W, Z⟩ Z H [] [] := ⟨.refl, wl, zl, .nil, (fun _ z => by cases z), (fun _ z => by cases z), (fun _ z => by cases z), (fun _ z => by cases z), fun _ z => .inl z⟩
/-- what stands at the beginning -/
theorem Hs.ent (h : Hs K B Z H L M) (e : Ent) (he : e.P Z H) (d : ∀ x ∈ L, ∀ a ∈ e.foot, a ∉ x.foot) (dz : ∀ a ∈ e.foot, a ∉ Z) (w : e.w = true → ∀ a ∈ e.foot, a ∈ B.W ∨ B.H0 a = none) : Hs K B Z H (e :: L) M :=
  ⟨h.kp, h.wl, h.zl, .cons (fun x hx a ha => d x hx a ha) h.nd, fun x hx => by rcases List.mem_cons.mp hx with rfl | hx; exact dz; exact h.zd x hx, fun x hx => by rcases List.mem_cons.mp hx with rfl | hx; exact he; exact h.at_ x hx, fun x hx => by rcases List.mem_cons.mp hx with rfl | hx; exact w; exact h.wr x hx, h.dp, h.zn⟩
theorem Hs.fact (h : Hs K B Z H L M) {vs : List V} {ds : List PyData} (d : Dts K Z H vs ds) : Hs K B Z H L ((vs, ds) :: M) :=
  ⟨h.kp, h.wl, h.zl, h.nd, h.zd, h.at_, h.wr, fun m hm => by rcases List.mem_cons.mp hm with rfl | hm; exact d; exact h.dp m hm, h.zn⟩
theorem Hs.fact1 (h : Hs K B Z H L M) {v : V} {d : PyData} (q : Dt K Z H v d) : Hs K B Z H L (([v], [d]) :: M) := h.fact (.cons q .nil)
/-- nothing of the old is touched -/
theorem Hs.same (h : Hs K B Z H L M) (k : Kp [] H H') : Hs K B Z H' L M :=
  ⟨h.kp.trans k.of0, fun a ha => by obtain ⟨o, e⟩ := h.wl a ha; exact ⟨o, k.get0 e⟩, fun a ha => by obtain ⟨o, e⟩ := h.zl a ha; exact ⟨o, k.get0 e⟩, h.nd, h.zd,
    fun x hx => x.loc Z H H' (h.at_ x hx) (fun a ha => by obtain ⟨o, e⟩ := x.live Z H (h.at_ x hx) a ha; rw [k.get0 e, e]) k.im, h.wr, fun m hm => (h.dp m hm).im k.im, h.zn⟩
theorem Hs.free (h : Hs K B Z H L M) (n : H a = none) : B.H0 a = none := by
  cases e : B.H0 a with
  | none => rfl
  | some o =>
    by_cases hw : a ∈ B.W
    · obtain ⟨u, q⟩ := h.wl a hw; rw [q] at n; cases n
    · rw [h.kp a o hw e] at n; cases n
theorem Hs.zfree (h : Hs K B Z H L M) (n : H a = none) : a ∉ Z := fun z => by
  obtain ⟨o, q⟩ := h.zl a z
  rw [q] at n; cases n
theorem Hs.efree (h : Hs K B Z H L M) (n : H a = none) {x : Ent} (hx : x ∈ L) : a ∉ x.foot := fun z => by
  obtain ⟨o, q⟩ := x.live Z H (h.at_ x hx) a z
  rw [q] at n; cases n
/-- something new -/
theorem Hs.new (h : Hs K B Z H L M) (k : Kp [] H H') (e : Ent) (n : ∀ a ∈ e.foot, H a = none) (he : e.P Z H') : Hs K B Z H' (e :: L) M :=
  (h.same k).ent e he (fun x hx a ha hb => h.efree (n a ha) hx hb) (fun a ha => h.zfree (n a ha)) fun _ a ha => .inr (h.free (n a ha))
theorem Hs.newObj {o : HO} (h : Hs K B Z H L M) (k : Kp [] H H') (n : H p = none) (e : H' p = some o) : Hs K B Z H' (.obj p o true :: L) M :=
  h.new k (.obj p o true) (fun a ha => by rw [one_mem ha]; exact n) e
theorem Hs.newDl {ds : List PyData} (h : Hs K B Z H L M) (k : Kp [] H H') (n : H p = none) (e : DL K Z H' p ds) : Hs K B Z H' (.dl K p ds true :: L) M :=
  h.new k (.dl K p ds true) (fun a ha => by rw [one_mem ha]; exact n) e
theorem Hs.newPool (h : Hs K B Z H L M) (k : Kp [] H H') (n : H p = none) (e : Pool H' p) : Hs K B Z H' (.pool p :: L) M :=
  h.new k (.pool p) (fun a ha => by rw [one_mem ha]; exact n) e
/-- more things that stand still -/
theorem Hs.moreZ (h : Hs K B Z H L M) (s : Z ⊆ Z') (zl : ∀ a ∈ Z', ∃ o, H a = some o) (zd : ∀ x ∈ L, ∀ a ∈ x.foot, a ∉ Z') (zn : ∀ a ∈ Z', a ∈ B.Z0 ∨ a ∈ B.W ∨ B.H0 a = none) : Hs K B Z' H L M :=
  ⟨h.kp, h.wl, zl, h.nd, zd, fun x hx => x.zs Z Z' H s (h.at_ x hx), h.wr, fun m hm => (h.dp m hm).zs s, zn⟩
/-- a list is let stand for good -/
theorem Hs.freeze {ds : List PyData} (h : Hs K B Z H L M) (r : Rem L (.dl K p ds true) L') : Hs K B (p :: Z) H L' (([.ref p], [.list ds]) :: M) := by
  obtain ⟨A, C, rfl, rfl⟩ := r.split
  have he : (Ent.dl K p ds true) ∈ A ++ .dl K p ds true :: C := by simp
  obtain ⟨xs, ex, q⟩ := (h.at_ _ he : DL K Z H p ds)
  have nd := h.nd
  rw [List.pairwise_append] at nd
  have sub : ∀ x ∈ A ++ C, x ∈ A ++ .dl K p ds true :: C := fun x hx => by
    rcases List.mem_append.mp hx with z | z
    · simp [z]
    · simp [z]
  have h1 : Hs K B Z H (A ++ C) M := ⟨h.kp, h.wl, h.zl, by
    rw [List.pairwise_append]
    exact ⟨nd.1, (List.pairwise_cons.mp nd.2.1).2, fun x hx y hy => nd.2.2 x hx y (by simp [hy])⟩, fun x hx => h.zd x (sub x hx), fun x hx => h.at_ x (sub x hx), fun x hx => h.wr x (sub x hx), h.dp, h.zn⟩
  have h2 : Hs K B (p :: Z) H (A ++ C) M := h1.moreZ (List.subset_cons_self _ _) (fun a ha => by
    rcases List.mem_cons.mp ha with rfl | ha
    · exact ⟨_, ex⟩
    · exact h.zl a ha) (fun x hx a ha hb => by
    rcases List.mem_cons.mp hb with rfl | hb
    · rcases List.mem_append.mp hx with z | z
      · exact nd.2.2 x z _ (List.mem_cons_self) a ha (by simp [Ent.dl])
      · exact (List.pairwise_cons.mp nd.2.1).1 x z a (by simp [Ent.dl]) ha
    · exact h.zd x (sub x hx) a ha hb) (fun a ha => by
    rcases List.mem_cons.mp ha with rfl | ha
    · rcases h.wr _ he rfl a (by simp [Ent.dl]) with z | z
      · exact .inr (.inl z)
      · exact .inr (.inr z)
    · exact h.zn a ha)
  exact h2.fact1 (.lst List.mem_cons_self ex (q.zs (List.subset_cons_self _ _)))
/-- one entry written -/
theorem Hs.put {N : List Addr} (h : Hs K B Z H L M) (l : Loc L e F) (hw : e.w = true) (k : Kp N H H') (sub : ∀ a ∈ N, a ∈ e.foot) (sub2 : ∀ a ∈ N, a ∈ e'.foot) (nt : ∀ a ∈ N, ∀ xs, H a ≠ some (.tup xs)) (he : e'.P Z H') (hf : ∀ a ∈ e'.foot, a ∈ e.foot ∨ H a = none) : Hs K B Z H' (F e') M := by
  obtain ⟨A, C, rfl, q⟩ := l.split
  rw [q]
  have he0 : e ∈ A ++ e :: C := by simp
  have im := k.imN (Z := Z) nt fun a ha => h.zd e he0 a (sub a ha)
  have hAB : ∀ x ∈ A ++ C, x ∈ A ++ e :: C := fun x hx => by
    rcases List.mem_append.mp hx with z | z
    · simp [z]
    · simp [z]
  have hkeep : ∀ x ∈ A ++ C, x.P Z H' := fun x hx => by
    have hxL := hAB x hx
    refine x.loc Z H H' (h.at_ x hxL) (fun a ha => ?_) im
    obtain ⟨o, eo⟩ := x.live Z H (h.at_ x hxL) a ha
    have na : a ∉ e.foot := by
      have nd := h.nd
      rw [List.pairwise_append] at nd
      rcases List.mem_append.mp hx with z | z
      · exact nd.2.2 x z e (by simp) a ha
      · intro hb
        exact (List.pairwise_cons.mp nd.2.1).1 x z a hb ha
    rw [k a o (fun z => na (sub a z)) eo, eo]
  have hdis : ∀ x ∈ A ++ C, ∀ a ∈ x.foot, a ∉ e'.foot := fun x hx a ha hb => by
    have hxL := hAB x hx
    rcases hf a hb with z | z
    · have nd := h.nd
      rw [List.pairwise_append] at nd
      rcases List.mem_append.mp hx with y | y
      · exact nd.2.2 x y e (by simp) a ha z
      · exact (List.pairwise_cons.mp nd.2.1).1 x y a z ha
    · exact h.efree z hxL ha
  have hmem : ∀ x, x ∈ A ++ e' :: C → x = e' ∨ x ∈ A ++ C := fun x hx => by
    rcases List.mem_append.mp hx with z | z
    · exact .inr (by simp [z])
    · rcases List.mem_cons.mp z with z | z
      · exact .inl z
      · exact .inr (by simp [z])
  refine ⟨fun b o nb eb => ?_, fun a ha => ?_, fun a ha => ?_, ?_, fun x hx a ha => ?_, fun x hx => ?_, fun x hx hxw a ha => ?_, fun m hm => (h.dp m hm).im im, h.zn⟩
  · refine k b o (fun z => ?_) (h.kp b o nb eb)
    rcases h.wr e he0 hw b (sub b z) with y | y
    · exact nb y
    · rw [y] at eb; cases eb
  · obtain ⟨o, eo⟩ := h.wl a ha
    by_cases z : a ∈ N
    · exact e'.live Z H' he a (sub2 a z)
    · exact ⟨o, k a o z eo⟩
  · obtain ⟨o, eo⟩ := h.zl a ha
    exact ⟨o, im.2 a ha o eo⟩
  · have nd := h.nd
    rw [List.pairwise_append] at nd ⊢
    refine ⟨nd.1, ?_, fun x hx y hy => ?_⟩
    · rw [List.pairwise_cons] at nd ⊢
      exact ⟨fun y hy a ha hb => hdis y (by simp [hy]) a hb ha, nd.2.1.2⟩
    · rcases List.mem_cons.mp hy with rfl | hy
      · exact hdis x (by simp [hx])
      · exact nd.2.2 x hx y (by simp [hy])
  · rcases hmem x hx with rfl | hx
    · rcases hf a ha with z | z
      · exact h.zd e he0 a z
      · exact h.zfree z
    · exact h.zd x (hAB x hx) a ha
  · rcases hmem x hx with rfl | hx
    · exact he
    · exact hkeep x hx
  · rcases hmem x hx with rfl | hx
    · rcases hf a ha with z | z
      · exact h.wr e he0 hw a z
      · exact .inr (h.free z)
    · exact h.wr x (hAB x hx) hxw a ha
end
end U

set_option Elab.async false
set_option linter.all false
set_option autoImplicit false
set_option maxRecDepth 100000
set_option maxHeartbeats 4000000
namespace U
open PySem PySem.Spec PyProof.Rows L2
/-! # steps over Hs -/
/-- data, or a list of data -/
inductive Da (K : PySem.W.Frag) (Z : List Addr) (H : Hp) : V → PyData → Prop
  | imm {v : V} {d : PyData} (h : Dt K Z H v d) : Da K Z H v d
  | lst {p : Addr} {ds : List PyData} (h : DL K Z H p ds) : Da K Z H (.ref p) (.list ds)
/-- a list that is read -/
def DLv (K : PySem.W.Frag) (Z : List Addr) (H : Hp) (v : V) (ds : List PyData) : Prop := ∃ p, v = .ref p ∧ DL K Z H p ds
section
variable {K : PySem.W.Frag} {Z : List Addr} {H H' : Hp}
theorem DL.sq {p : Addr} {ds : List PyData} (h : DL K Z H p ds) : ∃ xs, SqL K H p xs ∧ Dts K Z H xs ds := by
  obtain ⟨xs, e, q⟩ := h
  exact ⟨xs, sql e, q⟩
theorem Da.dp {v : V} {d : PyData} (h : Da K Z H v d) : Dp K H v d := by
  cases h with
  | imm h => exact h.dp
  | lst h => obtain ⟨xs, e, q⟩ := h; exact .lst (sql e) q.dp
theorem Da.plain {v : V} {d : PyData} (h : Da K Z H v d) : d.plain = true := by
  cases h with
  | imm h => exact h.plain
  | lst h => obtain ⟨xs, e, q⟩ := h; unfold PyData.plain; exact q.plain
theorem Dt.dlv {v : V} {ds : List PyData} (h : Dt K Z H v (.list ds)) : DLv K Z H v ds := by
  obtain ⟨a, xs, rfl, z, t, q⟩ := h.lst_inv
  exact ⟨a, rfl, xs, t, q⟩
end
/-! operators on data -/
def rEqA (K : PySem.W.Frag) (neg : Bool) : R2 := fun x y H Q => ∃ d e, Dp K H x d ∧ Dp K H y e ∧ d.plain = true ∧ e.plain = true ∧ min d.depth e.depth ≤ 60 ∧ Q (.bl (if neg then !PyData.eqv d e else PyData.eqv d e)) H
def rInA (K : PySem.W.Frag) (neg : Bool) : R2 := fun x y H Q => ∃ d ds, Dp K H x d ∧ (Dp K H y (.list ds) ∨ Dp K H y (.tuple ds)) ∧ d.plain = true ∧ PyData.plainAll ds = true ∧ min (PyData.depthAll ds) d.depth ≤ 60 ∧ Q (.bl (if neg then !(ds.any fun y => PyData.eqv y d) else ds.any fun y => PyData.eqv y d)) H
section
variable {X : Cx} (K : PySem.W.Frag)
theorem eqAK (hu : X.A.units + 64 < cLine) (hK : X.K = K := by rfl) : OpR X (compareOp .Eq) (rEqA K false) := by
  subst hK
  intro pins s σ H x y v u Q I rx ry h
  obtain ⟨d, e, hd, he, pd, pe, hm, q⟩ := h
  obtain ⟨as, r1⟩ := Dp.reads I d x v hd rx
  obtain ⟨bs, r2⟩ := Dp.reads I e y u he ry
  exact SeqAt.eq_plain r1 r2 pd pe (by omega) ⟨.bl _, H, I, rfl, q⟩
theorem neAK (hu : X.A.units + 64 < cLine) (hK : X.K = K := by rfl) : OpR X (compareOp .NotEq) (rEqA K true) := by
  subst hK
  intro pins s σ H x y v u Q I rx ry h
  obtain ⟨d, e, hd, he, pd, pe, hm, q⟩ := h
  obtain ⟨as, r1⟩ := Dp.reads I d x v hd rx
  obtain ⟨bs, r2⟩ := Dp.reads I e y u he ry
  exact SeqAt.ne_plain r1 r2 pd pe (by omega) ⟨.bl _, H, I, rfl, q⟩
theorem inAK (hu : X.A.units + 64 < cLine) (hK : X.K = K := by rfl) : OpR X (compareOp .In) (rInA K false) := by
  subst hK
  intro pins s σ H x y v u Q I rx ry h
  obtain ⟨d, ds, hd, hl, pd, pl, hm, q⟩ := h
  obtain ⟨as, r1⟩ := Dp.reads I d x v hd rx
  rcases hl with hl | hl
  · obtain ⟨bs, r2⟩ := Dp.reads I _ y u hl ry
    exact SeqAt.in_list_data r2 r1 pl pd (by omega) ⟨.bl _, H, I, rfl, q⟩
  · obtain ⟨bs, r2⟩ := Dp.reads I _ y u hl ry
    exact SeqAt.in_tuple_data r2 r1 pl pd (by omega) ⟨.bl _, H, I, rfl, q⟩
theorem niAK (hu : X.A.units + 64 < cLine) (hK : X.K = K := by rfl) : OpR X (compareOp .NotIn) (rInA K true) := by
  subst hK
  intro pins s σ H x y v u Q I rx ry h
  obtain ⟨d, ds, hd, hl, pd, pl, hm, q⟩ := h
  obtain ⟨as, r1⟩ := Dp.reads I d x v hd rx
  rcases hl with hl | hl
  · obtain ⟨bs, r2⟩ := Dp.reads I _ y u hl ry
    exact SeqAt.notIn_list_data r2 r1 pl pd (by omega) ⟨.bl _, H, I, rfl, q⟩
  · obtain ⟨bs, r2⟩ := Dp.reads I _ y u hl ry
    exact SeqAt.notIn_tuple_data r2 r1 pl pd (by omega) ⟨.bl _, H, I, rfl, q⟩
end
theorem plain_l {ds : List PyData} (h : (PyData.list ds).plain = true) : PyData.plainAll ds = true := by unfold PyData.plain at h; exact h
theorem plain_t {ds : List PyData} (h : (PyData.tuple ds).plain = true) : PyData.plainAll ds = true := by unfold PyData.plain at h; exact h
section
variable {K : PySem.W.Frag} {B : Bs} {H H' : Hp} {W Z : List Addr} {L : List Ent} {M : List (List V × List PyData)} {e e' : Ent} {F : Ent → List Ent} {a p : Addr} {Q : VK} {v x y : V} {d d' : PyData} {ds es : List PyData} {vs xs : List V} {w : Bool} {σ : L2.St}
/-! facts -/
theorem Hs.dt (h : Hs K B Z H L M) (m : ([v], [d]) ∈ M) : Dt K Z H v d := by
  have := h.dp _ m
  cases this with | cons h1 h2 => exact h1
theorem Hs.dts (h : Hs K B Z H L M) (m : (vs, ds) ∈ M) : Dts K Z H vs ds := h.dp _ m
theorem Hs.dtup {t : Addr} (h : Hs K B Z H L M) (l : Loc L (.obj t (.tup xs) w) F) (q : Dts K Z H xs ds) : Dt K Z H (.ref t) (.tuple ds) := .tup (h.obj l) q
theorem Hs.dlst (h : Hs K B Z H L M) (l : Loc L (.dl K p ds w) F) : Da K Z H (.ref p) (.list ds) := .lst (h.dl l)
theorem Hs.dlv (h : Hs K B Z H L M) (l : Loc L (.dl K p ds w) F) : DLv K Z H (.ref p) ds := ⟨p, rfl, h.dl l⟩
theorem Hs.tl {m : List V × List PyData} (h : Hs K B Z H L (m :: M)) : Hs K B Z H L M := ⟨h.kp, h.wl, h.zl, h.nd, h.zd, h.at_, h.wr, fun x hx => h.dp x (List.mem_cons_of_mem _ hx), h.zn⟩
theorem Hs.tlL (h : Hs K B Z H (e :: L) M) : Hs K B Z H L M := ⟨h.kp, h.wl, h.zl, (List.pairwise_cons.mp h.nd).2, fun x hx => h.zd x (List.mem_cons_of_mem _ hx), fun x hx => h.at_ x (List.mem_cons_of_mem _ hx), fun x hx => h.wr x (List.mem_cons_of_mem _ hx), h.dp, h.zn⟩
theorem Hs.sub {M' : List (List V × List PyData)} (h : Hs K B Z H L M) (s : M' ⊆ M) : Hs K B Z H L M' := ⟨h.kp, h.wl, h.zl, h.nd, h.zd, h.at_, h.wr, fun x hx => h.dp x (s hx), h.zn⟩
/-! displays -/
theorem h_tup (h : Hs K B Z H L M) (hl : xs.length ≤ 100000) (q : Dts K Z H xs ds) (k : ∀ p H', Hs K B Z H' L (([.ref p], [.tuple ds]) :: M) → Q (.ref p) H') : NewT xs H Q :=
  n_tup hl fun p H' hn hk ho => k p H' ((h.same hk).fact1 (.tup ho (q.im hk.im)))
theorem h_tupO (h : Hs K B Z H L M) (hl : xs.length ≤ 100000) (k : ∀ p H', Hs K B Z H' (.obj p (.tup xs) true :: L) M → Q (.ref p) H') : NewT xs H Q :=
  n_tup hl fun p H' hn hk ho => k p H' (h.newObj hk hn ho)
theorem h_lst (h : Hs K B Z H L M) (hl : xs.length ≤ 100000) (q : Dts K Z H xs ds) (k : ∀ p H', Hs K B Z H' (.dl K p ds true :: L) M → Q (.ref p) H') : NewL xs H Q :=
  n_lst hl fun p H' hn hk ho => k p H' (h.newDl hk hn ⟨xs, ho, q.im hk.im⟩)
theorem h_lstO (h : Hs K B Z H L M) (hl : xs.length ≤ 100000) (k : ∀ p H', Hs K B Z H' (.obj p (.lst xs) true :: L) M → Q (.ref p) H') : NewL xs H Q :=
  n_lst hl fun p H' hn hk ho => k p H' (h.newObj hk hn ho)
/-! items -/
theorem h_ixT {i : Int} (h : Hs K B Z H L M) (m : Dt K Z H v (.tuple ds)) (e : atI ds i = some d) (k : ∀ x, Dt K Z H x d → Hs K B Z H L (([x], [d]) :: M) → Q x H) : rIxT K v (.int i) H Q := by
  obtain ⟨a, ys, rfl, t, q⟩ := m.tup_inv
  obtain ⟨x, ex, qx⟩ := q.atI e
  exact ⟨a, ys, i, x, rfl, rfl, t.sq, ex, k x qx (h.fact1 qx)⟩
theorem h_ixTi {i j : Int} (m : Dt K Z H v (.tuple ds)) (e : atI ds i = some (.int j)) (k : Q (.int j) H) : rIxT K v (.int i) H Q := by
  obtain ⟨a, ys, rfl, t, q⟩ := m.tup_inv
  obtain ⟨x, ex, qx⟩ := q.atI e
  obtain rfl := qx.int_inv
  exact ⟨a, ys, i, _, rfl, rfl, t.sq, ex, k⟩
theorem h_ixTs {i : Int} {z : Str} (m : Dt K Z H v (.tuple ds)) (e : atI ds i = some (.str z)) (k : Q (.str z) H) : rIxT K v (.int i) H Q := by
  obtain ⟨a, ys, rfl, t, q⟩ := m.tup_inv
  obtain ⟨x, ex, qx⟩ := q.atI e
  obtain rfl := qx.str_inv
  exact ⟨a, ys, i, _, rfl, rfl, t.sq, ex, k⟩
theorem h_ixTb {i : Int} {z : Bool} (m : Dt K Z H v (.tuple ds)) (e : atI ds i = some (.bool z)) (k : Q (.bl z) H) : rIxT K v (.int i) H Q := by
  obtain ⟨a, ys, rfl, t, q⟩ := m.tup_inv
  obtain ⟨x, ex, qx⟩ := q.atI e
  obtain rfl := qx.bl_inv
  exact ⟨a, ys, i, _, rfl, rfl, t.sq, ex, k⟩
theorem h_ixTn {i : Int} (m : Dt K Z H v (.tuple ds)) (e : atI ds i = some .none) (k : Q .non H) : rIxT K v (.int i) H Q := by
  obtain ⟨a, ys, rfl, t, q⟩ := m.tup_inv
  obtain ⟨x, ex, qx⟩ := q.atI e
  obtain rfl := qx.non_inv
  exact ⟨a, ys, i, _, rfl, rfl, t.sq, ex, k⟩
theorem h_ixL {i : Int} (h : Hs K B Z H L M) (l : DLv K Z H v ds) (e : atI ds i = some d) (k : ∀ x, Dt K Z H x d → Hs K B Z H L (([x], [d]) :: M) → Q x H) : rIxL K v (.int i) H Q := by
  obtain ⟨p, rfl, l⟩ := l
  obtain ⟨ys, t, q⟩ := l.sq
  obtain ⟨x, ex, qx⟩ := q.atI e
  exact ⟨p, ys, i, x, rfl, rfl, t, ex, k x qx (h.fact1 qx)⟩
theorem h_ixLi {i j : Int} (h : Hs K B Z H L M) (l : DLv K Z H v ds) (e : atI ds i = some (.int j)) (k : Q (.int j) H) : rIxL K v (.int i) H Q :=
  h_ixL h l e fun x qx _ => by obtain rfl := qx.int_inv; exact k
theorem h_ixLs {i : Int} {z : Str} (h : Hs K B Z H L M) (l : DLv K Z H v ds) (e : atI ds i = some (.str z)) (k : Q (.str z) H) : rIxL K v (.int i) H Q :=
  h_ixL h l e fun x qx _ => by obtain rfl := qx.str_inv; exact k
theorem h_ixLb {i : Int} {z : Bool} (h : Hs K B Z H L M) (l : DLv K Z H v ds) (e : atI ds i = some (.bool z)) (k : Q (.bl z) H) : rIxL K v (.int i) H Q :=
  h_ixL h l e fun x qx _ => by obtain rfl := qx.bl_inv; exact k
/-! unpacking -/
theorem h_gtup {n : Nat} {g : TGs} {R : L2.St → Hp → Prop} (m : Dt K Z H v (.tuple ds)) (hl : ds.length = n) (k : ∀ xs, Dts K Z H xs ds → g xs σ H R) : gTup K n g v σ H R := by
  obtain ⟨a, ys, rfl, t, q⟩ := m.tup_inv
  exact ⟨a, ys, rfl, t.sq, by rw [q.length]; exact hl, k ys q⟩
theorem h_gc {g : TG} {u : TGs} {R : L2.St → Hp → Prop} (h : Hs K B Z H L M) (q : Dts K Z H xs (d :: ds)) (k : ∀ x xs', Dts K Z H xs' ds → Hs K B Z H L (([x], [d]) :: M) → g x σ H fun σ' H' => u xs' σ' H' R) : gCons g u xs σ H R := by
  cases q with
  | cons h1 h2 => exact ⟨_, _, rfl, k _ _ h2 (h.fact1 h1)⟩
theorem h_gci {g : TG} {u : TGs} {R : L2.St → Hp → Prop} {i : Int} (q : Dts K Z H xs (.int i :: ds)) (k : ∀ xs', Dts K Z H xs' ds → g (.int i) σ H fun σ' H' => u xs' σ' H' R) : gCons g u xs σ H R := by
  cases q with
  | cons h1 h2 => obtain rfl := h1.int_inv; exact ⟨_, _, rfl, k _ h2⟩
theorem h_gcs {g : TG} {u : TGs} {R : L2.St → Hp → Prop} {z : Str} (q : Dts K Z H xs (.str z :: ds)) (k : ∀ xs', Dts K Z H xs' ds → g (.str z) σ H fun σ' H' => u xs' σ' H' R) : gCons g u xs σ H R := by
  cases q with
  | cons h1 h2 => obtain rfl := h1.str_inv; exact ⟨_, _, rfl, k _ h2⟩
theorem h_gcb {g : TG} {u : TGs} {R : L2.St → Hp → Prop} {z : Bool} (q : Dts K Z H xs (.bool z :: ds)) (k : ∀ xs', Dts K Z H xs' ds → g (.bl z) σ H fun σ' H' => u xs' σ' H' R) : gCons g u xs σ H R := by
  cases q with
  | cons h1 h2 => obtain rfl := h1.bl_inv; exact ⟨_, _, rfl, k _ h2⟩
theorem h_gcn {g : TG} {u : TGs} {R : L2.St → Hp → Prop} (q : Dts K Z H xs (.none :: ds)) (k : ∀ xs', Dts K Z H xs' ds → g .non σ H fun σ' H' => u xs' σ' H' R) : gCons g u xs σ H R := by
  cases q with
  | cons h1 h2 => obtain rfl := h1.non_inv; exact ⟨_, _, rfl, k _ h2⟩
theorem h_gn {R : L2.St → Hp → Prop} (q : Dts K Z H xs []) (k : R σ H) : gNil xs σ H R := by
  cases q
  exact ⟨rfl, k⟩
/-! lengths -/
theorem h_lenL (l : DLv K Z H v ds) (k : Q (.int ds.length) H) : rLenA K [v] H Q := by
  obtain ⟨p, rfl, l⟩ := l
  obtain ⟨ys, t, q⟩ := l.sq
  exact ⟨p, ys, rfl, .inl t, by rw [q.length]; exact k⟩
theorem h_lenT (m : Dt K Z H v (.tuple ds)) (k : Q (.int ds.length) H) : rLenA K [v] H Q := by
  obtain ⟨a, ys, rfl, t, q⟩ := m.tup_inv
  exact ⟨a, ys, rfl, .inr t.sq, by rw [q.length]; exact k⟩
/-! lists written -/
theorem Hs.putDl (h : Hs K B Z H L M) (l : Loc L (.dl K p ds true) F) (k : Kp [p] H H') (e : DL K Z H' p es) : Hs K B Z H' (F (.dl K p es true)) M := by
  obtain ⟨ys, ey, _⟩ := h.dl l
  exact h.put l rfl k (fun a ha => ha) (fun a ha => ha) (fun a ha zs => by rw [one_mem ha, ey]; intro z; cases z) e (fun a ha => .inl ha)
theorem Hs.imDl (h : Hs K B Z H L M) (l : Loc L (.dl K p ds w) F) (k : Kp [p] H H') : Im Z H H' := by
  obtain ⟨ys, ey, _⟩ := h.dl l
  exact k.imN (fun a ha zs => by rw [one_mem ha, ey]; intro z; cases z) fun a ha => by rw [one_mem ha]; exact h.zd _ l.mem p (by simp [Ent.dl])
theorem h_app (h : Hs K B Z H L M) (l : Loc L (.dl K p ds true) F) (q : Dt K Z H y d) (hl : ds.length < 100000) (k : ∀ H', Hs K B Z H' (F (.dl K p (ds ++ [d]) true)) M → Q .non H') : rAppend (.ref p) [y] H Q := by
  obtain ⟨ys, ey, qs⟩ := h.dl l
  refine u_append ey (by rw [qs.length]; exact hl) fun H' hk ho => k H' (h.putDl l hk ⟨_, ho, (qs.append (.cons q .nil)).im (h.imDl l hk)⟩)
theorem h_bmL {R : Prop} (h : Hs K B Z H L M) (l : Loc L (.dl K p ds w) F) (q : R) : BmQ K "list" (.ref p) H R := by
  obtain ⟨ys, ey, _⟩ := h.dl l
  exact bm_list ey q
theorem h_setL {i : Int} {j : Nat} {R : Hp → Prop} (h : Hs K B Z H L M) (l : Loc L (.dl K p ds true) F) (q : Dt K Z H v d) (e : ixN ds.length i = some j) (k : ∀ H', Hs K B Z H' (F (.dl K p (ds.set j d) true)) M → R H') : rSetL (.ref p) (.int i) v H R := by
  obtain ⟨ys, ey, qs⟩ := h.dl l
  refine s_list ey (by rw [qs.length]; exact e) fun H' hk ho => k H' (h.putDl l hk ⟨_, ho, (qs.set j q).im (h.imDl l hk)⟩)
/-! slices, sums of lists -/
def cutD (ds : List PyData) (lo hi : Option Int) : List PyData := (ds.drop (HT.sIx ds.length 0 lo)).take (HT.sIx ds.length ds.length hi - HT.sIx ds.length 0 lo)
theorem Dts.cut {lo hi : Option Int} (q : Dts K Z H xs ds) : Dts K Z H (cutV xs lo hi) (cutD ds lo hi) := by
  unfold cutV cutD
  rw [q.length]
  exact (q.drop _).take _
theorem h_slL {lo hi : Option Int} (h : Hs K B Z H L M) (l : DLv K Z H v ds) (k : ∀ q H', Hs K B Z H' (.dl K q (cutD ds lo hi) true :: L) M → Q (.ref q) H') : rSlL K v lo hi H Q := by
  obtain ⟨p, rfl, l⟩ := l
  obtain ⟨ys, t, q⟩ := l.sq
  exact u_slL t fun p' H' hn hk ho => k p' H' (h.newDl hk hn ⟨_, ho, q.cut.im hk.im⟩)
theorem h_catL (h : Hs K B Z H L M) (l : DLv K Z H x ds) (l' : DLv K Z H y es) (hl : ds.length + es.length ≤ 100000) (k : ∀ q H', Hs K B Z H' (.dl K q (ds ++ es) true :: L) M → Q (.ref q) H') : rCat x y H Q := by
  obtain ⟨p, rfl, l⟩ := l
  obtain ⟨p', rfl, l'⟩ := l'
  obtain ⟨ys, t, q⟩ := l
  obtain ⟨zs, t', q'⟩ := l'
  exact u_catL t t' (by rw [q.length, q'.length]; exact hl) fun r H' hn hk ho => k r H' (h.newDl hk hn ⟨_, ho, (q.append q').im hk.im⟩)
theorem h_extL (h : Hs K B Z H L M) (l : Loc L (.dl K p ds true) F) (l' : DLv K Z H y es) (hl : ds.length + es.length ≤ 100000) (k : ∀ H', Hs K B Z H' (F (.dl K p (ds ++ es) true)) M → Q .non H') : rExtend (.ref p) [y] H Q := by
  obtain ⟨p', rfl, l'⟩ := l'
  obtain ⟨ys, t, q⟩ := h.dl l
  obtain ⟨zs, t', q'⟩ := l'
  refine ⟨p, p', ys, zs, rfl, rfl, t, t', sl5 (by rw [q.length, q'.length]; exact hl), k _ (h.putDl l Kp.mut ⟨_, upd_same, (q.append q').im (h.imDl l Kp.mut)⟩)⟩
/-! conversions -/
theorem h_tupOfL (h : Hs K B Z H L M) (l : DLv K Z H v ds) (k : ∀ q H', Hs K B Z H' L (([.ref q], [.tuple ds]) :: M) → Q (.ref q) H') : rTupOf K [v] H Q := by
  obtain ⟨p, rfl, l⟩ := l
  obtain ⟨ys, t, q⟩ := l.sq
  exact tupOf_l t fun r H' hn hk ho => k r H' ((h.same hk).fact1 (.tup ho (q.im hk.im)))
theorem h_tupOfT (m : Dt K Z H v (.tuple ds)) (k : Q v H) : rTupOf K [v] H Q := by
  obtain ⟨a, ys, rfl, t, q⟩ := m.tup_inv
  exact tupOf_t t.sq k
theorem h_listOfL (h : Hs K B Z H L M) (l : DLv K Z H v ds) (k : ∀ q H', Hs K B Z H' (.dl K q ds true :: L) M → Q (.ref q) H') : rListOf K [v] H Q := by
  obtain ⟨p, rfl, l⟩ := l
  obtain ⟨ys, t, q⟩ := l.sq
  exact listOf_l t fun r H' hn hk ho => k r H' (h.newDl hk hn ⟨_, ho, q.im hk.im⟩)
theorem h_listOfT (h : Hs K B Z H L M) (m : Dt K Z H v (.tuple ds)) (k : ∀ q H', Hs K B Z H' (.dl K q ds true :: L) M → Q (.ref q) H') : rListOf K [v] H Q := by
  obtain ⟨a, ys, rfl, t, q⟩ := m.tup_inv
  exact listOf_t t.sq fun r H' hn hk ho => k r H' (h.newDl hk hn ⟨_, ho, q.im hk.im⟩)
/-! comparisons -/
theorem h_eq (h1 : Da K Z H x d) (h2 : Da K Z H y d') (hm : min d.depth d'.depth ≤ 60) (k : Q (.bl (PyData.eqv d d')) H) : rEqA K false x y H Q := ⟨d, d', h1.dp, h2.dp, h1.plain, h2.plain, hm, k⟩
theorem h_ne (h1 : Da K Z H x d) (h2 : Da K Z H y d') (hm : min d.depth d'.depth ≤ 60) (k : Q (.bl (!PyData.eqv d d')) H) : rEqA K true x y H Q := ⟨d, d', h1.dp, h2.dp, h1.plain, h2.plain, hm, k⟩
theorem h_inL (h1 : Dt K Z H x d) (h2 : Da K Z H y (.list ds)) (hm : min (PyData.depthAll ds) d.depth ≤ 60) (k : Q (.bl (ds.any fun y => PyData.eqv y d)) H) : rInA K false x y H Q := ⟨d, ds, h1.dp, .inl h2.dp, h1.plain, plain_l h2.plain, hm, k⟩
theorem h_niL (h1 : Dt K Z H x d) (h2 : Da K Z H y (.list ds)) (hm : min (PyData.depthAll ds) d.depth ≤ 60) (k : Q (.bl (!(ds.any fun y => PyData.eqv y d))) H) : rInA K true x y H Q := ⟨d, ds, h1.dp, .inl h2.dp, h1.plain, plain_l h2.plain, hm, k⟩
theorem h_inT (h1 : Dt K Z H x d) (h2 : Dt K Z H y (.tuple ds)) (hm : min (PyData.depthAll ds) d.depth ≤ 60) (k : Q (.bl (ds.any fun y => PyData.eqv y d)) H) : rInA K false x y H Q := ⟨d, ds, h1.dp, .inr h2.dp, h1.plain, plain_t h2.plain, hm, k⟩
theorem h_niT (h1 : Dt K Z H x d) (h2 : Dt K Z H y (.tuple ds)) (hm : min (PyData.depthAll ds) d.depth ≤ 60) (k : Q (.bl (!(ds.any fun y => PyData.eqv y d))) H) : rInA K true x y H Q := ⟨d, ds, h1.dp, .inr h2.dp, h1.plain, plain_t h2.plain, hm, k⟩
/-! walks -/
/-- the address of a tuple of data -/
def TA_ (v : V) : Addr := match v with | .ref a => a | _ => 0
theorem h_iL {R : It → Hp → Prop} (l : DLv K Z H v ds) (k : R (Itl K (TA_ v)) H) : ItLq K v R H := by
  obtain ⟨p, rfl, l⟩ := l
  obtain ⟨ys, t, q⟩ := l.sq
  exact ⟨p, rfl, ⟨ys, t⟩, k⟩
theorem h_iT {R : It → Hp → Prop} (m : Dt K Z H v (.tuple ds)) (k : R (Itt K (TA_ v)) H) : ItTq K v R H := by
  obtain ⟨a, ys, rfl, t, q⟩ := m.tup_inv
  exact ⟨a, rfl, ⟨ys, t.sq⟩, k⟩
variable {g : TG} {tb : TS} {D : Ends}
theorem l_dl {v : V} (ds : List PyData) (Pv : Nat → L2.St → Hp → Prop) (h0 : Pv 0 σ H) (hl : ∀ i σ H, i ≤ ds.length → Pv i σ H → ∃ Z, DLv K Z H v ds)
    (hs : ∀ i d x σ H, ds[i]? = some d → (∀ Z, DLv K Z H v ds → Dt K Z H x d) → Pv i σ H → g x σ H fun σ2 H2 => tb { D with nx := Pv (i + 1), ct := Pv (i + 1), bk := D.nx } σ2 H2) (hd : ∀ σ H, Pv ds.length σ H → D.nx σ H) : LoopQ (Itl K (TA_ v)) g tb D σ H := by
  refine ⟨fun i m σ H => m = ds.length - i ∧ i ≤ ds.length ∧ Pv i σ H, ⟨_, rfl, Nat.zero_le _, h0⟩, ?_⟩
  rintro i m σ H ⟨rfl, hi, p⟩
  obtain ⟨Z, a, rfl, l⟩ := hl i σ H hi p
  obtain ⟨xs, t, q⟩ := l.sq
  by_cases hlt : i < ds.length
  · obtain ⟨d, ed⟩ : ∃ d, ds[i]? = some d := ⟨_, List.getElem?_eq_getElem hlt⟩
    obtain ⟨x, ex, qx⟩ := q.at ed
    refine .inr ⟨⟨xs, x, t, ex⟩, Pv (i + 1), fun σ' H' p' => ⟨ds.length - (i + 1), by omega, rfl, hlt, p'⟩, ?_⟩
    rintro x' H' ⟨rfl, hx⟩
    have := hx xs t
    rw [ex] at this
    cases this
    refine hs i d x σ _ ed (fun Z' l' => ?_) p
    obtain ⟨a', e', l'⟩ := l'
    cases e'
    obtain ⟨xs', t', q'⟩ := l'.sq
    have h2 := hx xs' t'
    obtain ⟨x2, ex2, qx2⟩ := q'.at ed
    rw [ex2] at h2
    cases h2
    exact qx2
  · obtain rfl : i = ds.length := by omega
    exact .inl ⟨⟨xs, t, by rw [q.length]; exact Nat.le_refl _⟩, hd σ H p⟩
theorem l_dt {v : V} (ds : List PyData) (Pv : Nat → L2.St → Hp → Prop) (h0 : Pv 0 σ H) (hl : ∀ i σ H, i ≤ ds.length → Pv i σ H → ∃ Z, Dt K Z H v (.tuple ds))
    (hs : ∀ i d x σ H, ds[i]? = some d → (∀ Z, Dt K Z H v (.tuple ds) → Dt K Z H x d) → Pv i σ H → g x σ H fun σ2 H2 => tb { D with nx := Pv (i + 1), ct := Pv (i + 1), bk := D.nx } σ2 H2) (hd : ∀ σ H, Pv ds.length σ H → D.nx σ H) : LoopQ (Itt K (TA_ v)) g tb D σ H := by
  refine ⟨fun i m σ H => m = ds.length - i ∧ i ≤ ds.length ∧ Pv i σ H, ⟨_, rfl, Nat.zero_le _, h0⟩, ?_⟩
  rintro i m σ H ⟨rfl, hi, p⟩
  obtain ⟨Z, l⟩ := hl i σ H hi p
  obtain ⟨a, xs, rfl, t, q⟩ := l.tup_inv
  by_cases hlt : i < ds.length
  · obtain ⟨d, ed⟩ : ∃ d, ds[i]? = some d := ⟨_, List.getElem?_eq_getElem hlt⟩
    obtain ⟨x, ex, qx⟩ := q.at ed
    refine .inr ⟨⟨xs, x, t.sq, ex⟩, Pv (i + 1), fun σ' H' p' => ⟨ds.length - (i + 1), by omega, rfl, hlt, p'⟩, ?_⟩
    rintro x' H' ⟨rfl, hx⟩
    have := hx xs t.sq
    rw [ex] at this
    cases this
    refine hs i d x σ _ ed (fun Z' l' => ?_) p
    obtain ⟨a', xs', e', t', q'⟩ := l'.tup_inv
    cases e'
    have h2 := hx xs' t'.sq
    obtain ⟨x2, ex2, qx2⟩ := q'.at ed
    rw [ex2] at h2
    cases h2
    exact qx2
  · obtain rfl : i = ds.length := by omega
    exact .inl ⟨⟨xs, t.sq, by rw [q.length]; exact Nat.le_refl _⟩, hd σ H p⟩
/-! comprehensions: what a turn leaves -/
variable {tt : TT} {te : TE} {ns : List Nat}
/-- the item at the end of a turn -/
def AppD (K : PySem.W.Frag) (B : Bs) (Z : List Addr) (L : List Ent) (M : List (List V × List PyData)) (R : List PyData → Prop) (D : Addr) (acc : List PyData) (y : V) (H : Hp) : Prop := ∃ d, Dt K Z H y d ∧ R (acc ++ [d]) ∧ Hs K B Z H (.dl K D acc true :: L) M
theorem appD {R : List PyData → Prop} {D : Addr} {acc : List PyData} (q : Dt K Z H y d) (r : R (acc ++ [d])) (h : Hs K B Z H (.dl K D acc true :: L) M) : AppD K B Z L M R D acc y H := ⟨d, q, r, h⟩
theorem lc_body {R : List PyData → Prop} {D : Addr} {acc : List PyData} {Nx : Hp → Prop} (hl : acc.length < 100000) (nx : ∀ acc' H', R acc' → Hs K B Z H' (.dl K D acc' true :: L) M → Nx H') (q : AppD K B Z L M R D acc y H) : AppE D y H Nx := by
  obtain ⟨d, qd, r, h⟩ := q
  obtain ⟨ys, ey, qs⟩ := h.dl .here
  refine appE ey (by rw [qs.length]; exact hl) fun H' hk ho => nx _ H' r (h.putDl .here hk ⟨_, ho, (qs.append (.cons qd .nil)).im (h.imDl .here hk)⟩)
end
end U

set_option Elab.async false
set_option linter.all false
set_option autoImplicit false
set_option maxRecDepth 100000
set_option maxHeartbeats 4000000
namespace U
open PySem PySem.Spec PyProof.Rows L2
section
variable {K : PySem.W.Frag} {B : Bs} {H H' : Hp} {Z Z' : List Addr} {L L' : List Ent} {M M' : List (List V × List PyData)} {e e' : Ent} {F : Ent → List Ent} {a p : Addr} {Q : VK} {v x y : V} {d d' : PyData} {ds es : List PyData} {vs xs : List V} {w : Bool} {σ : L2.St}
/-! # less of a sentence -/
inductive Suf {α : Type} : List α → List α → Prop
  | refl {l : List α} : Suf l l
  | keep {l m : List α} {x : α} : Suf l m → Suf (x :: l) (x :: m)
  | cons {l m : List α} {x : α} : Suf l m → Suf l (x :: m)
theorem Suf.nil_ {α : Type} : ∀ l : List α, Suf [] l
  | [] => .refl
  | _ :: r => .cons (Suf.nil_ r)
theorem Suf.sl {α : Type} {l m : List α} (s : Suf l m) : l.Sublist m := by
  induction s with
  | refl => exact List.Sublist.refl _
  | keep _ ih => exact ih.cons₂ _
  | cons _ ih => exact ih.cons _
theorem Suf.sub {α : Type} {l m : List α} (s : Suf l m) : l ⊆ m := s.sl.subset
theorem Suf.pw {α : Type} {R : α → α → Prop} {l m : List α} (s : Suf l m) (h : m.Pairwise R) : l.Pairwise R := h.sublist s.sl
theorem Hs.wk (h : Hs K B Z H L' M') (l : Suf L L') (m : Suf M M') : Hs K B Z H L M :=
  ⟨h.kp, h.wl, h.zl, l.pw h.nd, fun x hx => h.zd x (l.sub hx), fun x hx => h.at_ x (l.sub hx), fun x hx => h.wr x (l.sub hx), fun x hx => h.dp x (m.sub hx), h.zn⟩
theorem Hs.rem (h : Hs K B Z H L M) (r : Rem L e L') : Hs K B Z H L' M := by
  obtain ⟨A, C, rfl, rfl⟩ := r.split
  have nd := h.nd
  rw [List.pairwise_append] at nd
  have sub : ∀ x ∈ A ++ C, x ∈ A ++ e :: C := fun x hx => by
    rcases List.mem_append.mp hx with z | z
    · simp [z]
    · simp [z]
  exact ⟨h.kp, h.wl, h.zl, by
    rw [List.pairwise_append]
    exact ⟨nd.1, (List.pairwise_cons.mp nd.2.1).2, fun x hx y hy => nd.2.2 x hx y (by simp [hy])⟩, fun x hx => h.zd x (sub x hx), fun x hx => h.at_ x (sub x hx), fun x hx => h.wr x (sub x hx), h.dp, h.zn⟩
/-! # comprehensions -/
def LcP (K : PySem.W.Frag) (B : Bs) (Z : List Addr) (L : List Ent) (M : List (List V × List PyData)) (R : Nat → List PyData → Prop) (D : Addr) (i : Nat) (H : Hp) : Prop := ∃ acc Z', Z ⊆ Z' ∧ R i acc ∧ acc.length ≤ i ∧ Hs K B Z' H (.dl K D acc true :: L) M
variable {g : TG} {tt : TT} {te : TE} {ns : List Nat} {R : Nat → List PyData → Prop} {D : Addr} {i : Nat} {acc : List PyData}
theorem lcE (h : Hs K B Z' H (.dl K D acc true :: L) M) (s : Z ⊆ Z') (hl : acc.length ≤ i) (hi : i < 100000) (q : Dt K Z' H y d) (r : R (i + 1) (acc ++ [d])) : AppE D y H (LcP K B Z L M R D (i + 1)) := by
  obtain ⟨ys, ey, qs⟩ := h.dl .here
  refine appE ey (by rw [qs.length]; omega) fun H' hk ho => ⟨acc ++ [d], Z', s, r, by rw [List.length_append]; show _ + 1 ≤ _; omega, h.putDl .here hk ⟨_, ho, (qs.append (.cons q .nil)).im (h.imDl .here hk)⟩⟩
theorem lcS (h : Hs K B Z' H (.dl K D acc true :: L) M) (s : Z ⊆ Z') (hl : acc.length ≤ i) (r : R (i + 1) acc) : LcP K B Z L M R D (i + 1) H := ⟨acc, Z', s, r, Nat.le_succ_of_le hl, h⟩
theorem h_lcL (ds : List PyData) (R : Nat → List PyData → Prop) (h : Hs K B Z H L M) (hl : ∀ D acc Z' H', Hs K B Z' H' (.dl K D acc true :: L) M → DLv K Z' H' v ds) (r0 : R 0 [])
    (turn : ∀ D i d x acc Z' H', ds[i]? = some d → R i acc → acc.length ≤ i → Z ⊆ Z' → Hs K B Z' H' (.dl K D acc true :: L) (([x], [d]) :: M) → g x (wipe σ ns) H' fun σ2 H2 => EndQ (wipe σ2 ns) (wipe σ ns) (tt σ2 H2 fun b H3 => Br b (fun H4 => te σ2 H4 fun y H5 => AppE D y H5 (LcP K B Z L M R D (i + 1))) (LcP K B Z L M R D (i + 1)) H3))
    (done : ∀ D acc Z' H', R ds.length acc → acc.length ≤ ds.length → Z ⊆ Z' → Hs K B Z' H' (.dl K D acc true :: L) M → Q (.ref D) H') : LcQ (Itl K (TA_ v)) g tt te ns σ Q H := by
  intro D hD
  have h0 := h.newDl (Kp.new hD) hD (ds := []) ⟨[], upd_same, .nil⟩
  refine ⟨fun i m H' => m = ds.length - i ∧ i ≤ ds.length ∧ LcP K B Z L M R D i H', ⟨_, rfl, Nat.zero_le _, [], Z, fun _ z => z, r0, Nat.le_refl _, h0⟩, ?_⟩
  rintro i m H' ⟨rfl, hi, acc, Z', sz, r, hacc, hs⟩
  obtain ⟨a, rfl, l⟩ := hl _ _ _ _ hs
  obtain ⟨xs, t, q⟩ := l.sq
  by_cases hlt : i < ds.length
  · obtain ⟨d, ed⟩ : ∃ d, ds[i]? = some d := ⟨_, List.getElem?_eq_getElem hlt⟩
    obtain ⟨x, ex, qx⟩ := q.at ed
    refine .inr ⟨⟨xs, x, t, ex⟩, LcP K B Z L M R D (i + 1), fun H2 p2 => ⟨ds.length - (i + 1), by omega, rfl, hlt, p2⟩, ?_⟩
    rintro x' H2 ⟨rfl, hx⟩
    have e2 := hx xs t
    rw [ex] at e2
    cases e2
    exact turn D i d x acc Z' _ ed r hacc sz (hs.fact1 qx)
  · obtain rfl : i = ds.length := by omega
    exact .inl ⟨⟨xs, t, by rw [q.length]; exact Nat.le_refl _⟩, done D acc Z' H' r hacc sz hs⟩
theorem h_lcT (ds : List PyData) (R : Nat → List PyData → Prop) (h : Hs K B Z H L M) (hl : ∀ D acc Z' H', Hs K B Z' H' (.dl K D acc true :: L) M → Dt K Z' H' v (.tuple ds)) (r0 : R 0 [])
    (turn : ∀ D i d x acc Z' H', ds[i]? = some d → R i acc → acc.length ≤ i → Z ⊆ Z' → Hs K B Z' H' (.dl K D acc true :: L) (([x], [d]) :: M) → g x (wipe σ ns) H' fun σ2 H2 => EndQ (wipe σ2 ns) (wipe σ ns) (tt σ2 H2 fun b H3 => Br b (fun H4 => te σ2 H4 fun y H5 => AppE D y H5 (LcP K B Z L M R D (i + 1))) (LcP K B Z L M R D (i + 1)) H3))
    (done : ∀ D acc Z' H', R ds.length acc → acc.length ≤ ds.length → Z ⊆ Z' → Hs K B Z' H' (.dl K D acc true :: L) M → Q (.ref D) H') : LcQ (Itt K (TA_ v)) g tt te ns σ Q H := by
  intro D hD
  have h0 := h.newDl (Kp.new hD) hD (ds := []) ⟨[], upd_same, .nil⟩
  refine ⟨fun i m H' => m = ds.length - i ∧ i ≤ ds.length ∧ LcP K B Z L M R D i H', ⟨_, rfl, Nat.zero_le _, [], Z, fun _ z => z, r0, Nat.le_refl _, h0⟩, ?_⟩
  rintro i m H' ⟨rfl, hi, acc, Z', sz, r, hacc, hs⟩
  obtain ⟨a, xs, rfl, t, q⟩ := (hl _ _ _ _ hs).tup_inv
  by_cases hlt : i < ds.length
  · obtain ⟨d, ed⟩ : ∃ d, ds[i]? = some d := ⟨_, List.getElem?_eq_getElem hlt⟩
    obtain ⟨x, ex, qx⟩ := q.at ed
    refine .inr ⟨⟨xs, x, t.sq, ex⟩, LcP K B Z L M R D (i + 1), fun H2 p2 => ⟨ds.length - (i + 1), by omega, rfl, hlt, p2⟩, ?_⟩
    rintro x' H2 ⟨rfl, hx⟩
    have e2 := hx xs t.sq
    rw [ex] at e2
    cases e2
    exact turn D i d x acc Z' _ ed r hacc sz (hs.fact1 qx)
  · obtain rfl : i = ds.length := by omega
    exact .inl ⟨⟨xs, t.sq, by rw [q.length]; exact Nat.le_refl _⟩, done D acc Z' H' r hacc sz hs⟩
theorem h_lcR {lo : Int} {n : Nat} (R : Nat → List PyData → Prop) (h : Hs K B Z H L M) (r0 : R 0 [])
    (turn : ∀ D i acc Z' H', i < n → R i acc → acc.length ≤ i → Z ⊆ Z' → Hs K B Z' H' (.dl K D acc true :: L) M → g (.int (lo + i)) (wipe σ ns) H' fun σ2 H2 => EndQ (wipe σ2 ns) (wipe σ ns) (tt σ2 H2 fun b H3 => Br b (fun H4 => te σ2 H4 fun y H5 => AppE D y H5 (LcP K B Z L M R D (i + 1))) (LcP K B Z L M R D (i + 1)) H3))
    (done : ∀ D acc Z' H', R n acc → acc.length ≤ n → Z ⊆ Z' → Hs K B Z' H' (.dl K D acc true :: L) M → Q (.ref D) H') : LcQ (Itr lo n) g tt te ns σ Q H :=
  l_lcR (LcP K B Z L M R) (fun D H' hD hk ho => ⟨[], Z, fun _ z => z, r0, Nat.le_refl _, h.newDl hk hD ⟨[], ho, .nil⟩⟩)
    (fun D i H' hD hi ⟨acc, Z', sz, r, hacc, hs⟩ => turn D i acc Z' H' hi r hacc sz hs) (fun D H' hD ⟨acc, Z', sz, r, hacc, hs⟩ => done D acc Z' H' r hacc sz hs)
/-! # promises about data -/
/-- what comes back: data whose lists are the callee's own or came with the arguments -/
def Rv (K : PySem.W.Frag) (Z : List Addr) (H H' : Hp) (v : V) (d : PyData) : Prop := ∃ Zr : List Addr, (∀ z ∈ Zr, z ∈ Z ∨ H z = none) ∧ (∀ z ∈ Zr, ∃ o, H' z = some o) ∧ Dt K Zr H' v d
def spV (K : PySem.W.Frag) (S : List PyData → (PyData → Prop) → Prop) : Sp := fun vs H Q _ => ∃ Z ds, (∀ z ∈ Z, ∃ o, H z = some o) ∧ Dts K Z H vs ds ∧ S ds fun d => ∀ v H', Kp [] H H' → Rv K Z H H' v d → Q v H'
def spW (K : PySem.W.Frag) (S : List PyData → (PyData → Prop) → Prop) : Sp := fun vs H Q _ => ∃ a us Z ds, vs = .ref a :: us ∧ Pool H a ∧ a ∉ Z ∧ (∀ z ∈ Z, ∃ o, H z = some o) ∧ Dts K Z H us ds ∧ S ds fun d => ∀ v H', Kp [a] H H' → Pool H' a → Rv K Z H H' v d → Q v H'
def Rl (K : PySem.W.Frag) (Z : List Addr) (H H' : Hp) (p : Addr) (ds : List PyData) : Prop := H p = none ∧ ∃ Zr : List Addr, (∀ z ∈ Zr, z ∈ Z ∨ H z = none) ∧ (∀ z ∈ Zr, ∃ o, H' z = some o) ∧ p ∉ Zr ∧ DL K Zr H' p ds
/-- .. a list of its own -/
def spVL (K : PySem.W.Frag) (S : List PyData → (List PyData → Prop) → Prop) : Sp := fun vs H Q _ => ∃ Z ds, (∀ z ∈ Z, ∃ o, H z = some o) ∧ Dts K Z H vs ds ∧ S ds fun es => ∀ p H', Kp [] H H' → Rl K Z H H' p es → Q (.ref p) H'
def spWL (K : PySem.W.Frag) (S : List PyData → (List PyData → Prop) → Prop) : Sp := fun vs H Q _ => ∃ a us Z ds, vs = .ref a :: us ∧ Pool H a ∧ a ∉ Z ∧ (∀ z ∈ Z, ∃ o, H z = some o) ∧ Dts K Z H us ds ∧ S ds fun es => ∀ p H', Kp [a] H H' → Pool H' a → Rl K Z H H' p es → Q (.ref p) H'
/-- the caller goes on -/
def RetG (K : PySem.W.Frag) (B : Bs) (Z : List Addr) (H : Hp) (L : List Ent) (M : List (List V × List PyData)) (Q : VK) (d : PyData) : Prop := ∀ v H', Hs K B Z H' L M → Rv K Z H H' v d → Hs K B Z H L M → Q v H'
def RetL (K : PySem.W.Frag) (B : Bs) (Z : List Addr) (H : Hp) (L : List Ent) (M : List (List V × List PyData)) (Q : VK) (ds : List PyData) : Prop := ∀ p H', Hs K B Z H' L M → Rl K Z H H' p ds → Hs K B Z H L M → Q (.ref p) H'
theorem Hs.callW {E : XK} (h : Hs K B Z H L M) (l : Loc L (.pool a) F) {H' : Hp} (k : Kp [a] H H') (p : Pool H' a) : Hs K B Z H' L M := by
  obtain ⟨A, C, rfl, q⟩ := l.split
  have r := h.put (e' := .pool a) l rfl k (fun x hx => hx) (fun x hx => hx) (fun x hx zs => by
    obtain ⟨c, y, n, j, e⟩ := h.pool l
    rw [one_mem hx, e]; intro z; cases z) p (fun x hx => .inl hx)
  rw [q] at r
  exact r
theorem k_v {S : List PyData → (PyData → Prop) → Prop} {E : XK} (h : Hs K B Z H L M) (q : Dts K Z H vs ds) (s : S ds (RetG K B Z H L M Q)) (mono : ∀ φ ψ : PyData → Prop, (∀ d, φ d → ψ d) → S ds φ → S ds ψ) : spV K S vs H Q E :=
  ⟨Z, ds, h.zl, q, mono _ _ (fun d r v H' k rv => r v H' (h.same k) rv h) s⟩
theorem k_w {S : List PyData → (PyData → Prop) → Prop} {E : XK} (h : Hs K B Z H L M) (l : Loc L (.pool a) F) (q : Dts K Z H vs ds) (s : S ds (RetG K B Z H L M Q)) (mono : ∀ φ ψ : PyData → Prop, (∀ d, φ d → ψ d) → S ds φ → S ds ψ) : spW K S (.ref a :: vs) H Q E :=
  ⟨a, vs, Z, ds, rfl, h.pool l, h.zd _ l.mem a (by simp [Ent.pool]), h.zl, q, mono _ _ (fun d r v H' k p rv => r v H' (h.callW (E := E) l k p) rv h) s⟩
theorem k_vl {S : List PyData → (List PyData → Prop) → Prop} {E : XK} (h : Hs K B Z H L M) (q : Dts K Z H vs ds) (s : S ds (RetL K B Z H L M Q)) (mono : ∀ φ ψ : List PyData → Prop, (∀ d, φ d → ψ d) → S ds φ → S ds ψ) : spVL K S vs H Q E :=
  ⟨Z, ds, h.zl, q, mono _ _ (fun d r v H' k rv => r v H' (h.same k) rv h) s⟩
theorem k_wl {S : List PyData → (List PyData → Prop) → Prop} {E : XK} (h : Hs K B Z H L M) (l : Loc L (.pool a) F) (q : Dts K Z H vs ds) (s : S ds (RetL K B Z H L M Q)) (mono : ∀ φ ψ : List PyData → Prop, (∀ d, φ d → ψ d) → S ds φ → S ds ψ) : spWL K S (.ref a :: vs) H Q E :=
  ⟨a, vs, Z, ds, rfl, h.pool l, h.zd _ l.mem a (by simp [Ent.pool]), h.zl, q, mono _ _ (fun d r v H' k p rv => r v H' (h.callW (E := E) l k p) rv h) s⟩
theorem ret_int {i : Int} (k : ∀ H', Hs K B Z H' L M → Q (.int i) H') : RetG K B Z H L M Q (.int i) := fun v H' h ⟨_, _, _, q⟩ _ => by rw [q.int_inv]; exact k H' h
theorem ret_str {z : Str} (k : ∀ H', Hs K B Z H' L M → Q (.str z) H') : RetG K B Z H L M Q (.str z) := fun v H' h ⟨_, _, _, q⟩ _ => by rw [q.str_inv]; exact k H' h
theorem ret_bl {b : Bool} (k : ∀ H', Hs K B Z H' L M → Q (.bl b) H') : RetG K B Z H L M Q (.bool b) := fun v H' h ⟨_, _, _, q⟩ _ => by rw [q.bl_inv]; exact k H' h
theorem ret_non (k : ∀ H', Hs K B Z H' L M → Q .non H') : RetG K B Z H L M Q .none := fun v H' h ⟨_, _, _, q⟩ _ => by rw [q.non_inv]; exact k H' h
theorem Hs.addZ {Zr : List Addr} (h : Hs K B Z H' L M) (h0 : Hs K B Z H L M) (ok : ∀ z ∈ Zr, z ∈ Z ∨ H z = none) (al : ∀ z ∈ Zr, ∃ o, H' z = some o) : Hs K B (Zr ++ Z) H' L M :=
  h.moreZ (List.subset_append_right _ _) (fun a ha => by rcases List.mem_append.mp ha with z | z; exact al a z; exact h.zl a z)
    (fun x hx a ha hb => by
      rcases List.mem_append.mp hb with z | z
      · rcases ok a z with y | y
        · exact h.zd x hx a ha y
        · exact h0.efree y hx ha
      · exact h.zd x hx a ha z)
    fun a ha => by
      rcases List.mem_append.mp ha with z | z
      · rcases ok a z with y | y
        · exact h.zn a y
        · exact .inr (.inr (h0.free y))
      · exact h.zn a z
theorem ret_any (k : ∀ v Z' H', Z ⊆ Z' → Hs K B Z' H' L (([v], [d]) :: M) → Q v H') : RetG K B Z H L M Q d := fun v H' h ⟨Zr, ok, al, q⟩ h0 =>
  k v _ H' (List.subset_append_right Zr Z) ((h.addZ h0 ok al).fact1 (Dt.zs (List.subset_append_left _ _) _ _ q))
theorem retL (k : ∀ p Z' H', Z ⊆ Z' → Hs K B Z' H' (.dl K p ds true :: L) M → Q (.ref p) H') : RetL K B Z H L M Q ds := fun p H' h ⟨n, Zr, ok, al, np, xs, e, q⟩ h0 => by
  refine k p _ H' (List.subset_append_right Zr Z) ((h.addZ h0 ok al).ent (.dl K p ds true) ⟨xs, e, q.zs (List.subset_append_left _ _)⟩ (fun x hx b hb => ?_) (fun b hb => ?_) (fun _ b hb => ?_))
  · rw [one_mem hb]; exact h0.efree n hx
  · rw [one_mem hb]
    intro z
    rcases List.mem_append.mp z with z | z
    · exact np z
    · exact h0.zfree n z
  · rw [one_mem hb]; exact .inr (h0.free n)
/-! the def is left -/
variable {H0 : Hp} {Z0 : List Addr}
theorem fin_v (h : Hs K ⟨H0, [], Z0⟩ Z H L M) (q : Dt K Z H v d) (k : ∀ v H', Kp [] H0 H' → Rv K Z0 H0 H' v d → Q v H') : Q v H :=
  k v H h.kp ⟨Z, fun z hz => by
    rcases h.zn z hz with y | y | y
    · exact .inl y
    · cases y
    · exact .inr y, h.zl, q⟩
theorem Hs.znW (h : Hs K ⟨H0, [a], Z0⟩ Z H L M) (l : Loc L (.pool a) F) : ∀ z ∈ Z, z ∈ Z0 ∨ H0 z = none := fun z hz => by
  rcases h.zn z hz with y | y | y
  · exact .inl y
  · have : z = a := one_mem y
    subst this
    exact absurd hz (h.zd _ l.mem z (by simp [Ent.pool]))
  · exact .inr y
theorem fin_w (h : Hs K ⟨H0, [a], Z0⟩ Z H L M) (l : Loc L (.pool a) F) (q : Dt K Z H v d) (k : ∀ v H', Kp [a] H0 H' → Pool H' a → Rv K Z0 H0 H' v d → Q v H') : Q v H :=
  k v H h.kp (h.pool l) ⟨Z, h.znW l, h.zl, q⟩
theorem Hs.newP (h : Hs K B Z H L M) (l : Loc L (.dl K p ds true) F) (nw : p ∉ B.W) : B.H0 p = none := by
  rcases h.wr _ l.mem rfl p (by simp [Ent.dl]) with z | z
  · exact absurd z nw
  · exact z
theorem fin_vl (h : Hs K ⟨H0, [], Z0⟩ Z H L M) (l : Loc L (.dl K p ds true) F) (k : ∀ p H', Kp [] H0 H' → Rl K Z0 H0 H' p ds → Q (.ref p) H') : Q (.ref p) H :=
  k p H h.kp ⟨h.newP l (by simp), Z, fun z hz => by
    rcases h.zn z hz with y | y | y
    · exact .inl y
    · cases y
    · exact .inr y, h.zl, h.zd _ l.mem p (by simp [Ent.dl]), h.dl l⟩
theorem fin_wl {F' : Ent → List Ent} (h : Hs K ⟨H0, [a], Z0⟩ Z H L M) (l : Loc L (.dl K p ds true) F) (l' : Loc L (.pool a) F') (k : ∀ p H', Kp [a] H0 H' → Pool H' a → Rl K Z0 H0 H' p ds → Q (.ref p) H') : Q (.ref p) H :=
  k p H h.kp (h.pool l') ⟨h.newP l (by simpa using h.nePool l l'), Z, h.znW l', h.zl, h.zd _ l.mem p (by simp [Ent.dl]), h.dl l⟩
/-- the def is entered -/
theorem in_v (zl : ∀ z ∈ Z, ∃ o, H z = some o) (q : Dts K Z H vs ds) : Hs K ⟨H, [], Z⟩ Z H [] [(vs, ds)] := (Hs.start (fun _ z => by cases z) zl).fact q
theorem in_w (p : Pool H a) (na : a ∉ Z) (zl : ∀ z ∈ Z, ∃ o, H z = some o) (q : Dts K Z H vs ds) : Hs K ⟨H, [a], Z⟩ Z H [.pool a] [(vs, ds)] :=
  ((Hs.start (fun b hb => by
    obtain ⟨c, x, n, k, e⟩ := p
    rw [one_mem hb]; exact ⟨_, e⟩) zl).ent (.pool a) p (fun _ z => by cases z) (fun b hb => by rw [one_mem hb]; exact na) (fun _ b hb => .inl hb)).fact q
/-- the facts of the arguments, one by one -/
theorem Hs.arg (h : Hs K B Z H L ((vs, d :: ds) :: M)) : ∃ x xs, vs = x :: xs ∧ Hs K B Z H L ((xs, ds) :: ([x], [d]) :: M) := by
  have q := h.dp _ List.mem_cons_self
  cases q with
  | cons h1 h2 => exact ⟨_, _, rfl, (h.tl.fact1 h1).fact h2⟩
theorem Hs.argN (h : Hs K B Z H L ((vs, []) :: M)) : vs = [] ∧ Hs K B Z H L M := by
  have q := h.dp _ List.mem_cons_self
  cases q
  exact ⟨rfl, h.tl⟩
theorem Hs.arg_int {i : Int} (h : Hs K B Z H L (([x], [.int i]) :: M)) : x = .int i := (h.dt List.mem_cons_self).int_inv
theorem Hs.arg_str {z : Str} (h : Hs K B Z H L (([x], [.str z]) :: M)) : x = .str z := (h.dt List.mem_cons_self).str_inv
end
end U

set_option Elab.async false
set_option linter.all false
set_option autoImplicit false
set_option maxRecDepth 100000
set_option maxHeartbeats 4000000
namespace U
open PySem PySem.Spec PyProof.Rows L2
section
variable {K : PySem.W.Frag} {B : Bs} {H H' : Hp} {Z Z' : List Addr} {L L' : List Ent} {M M' : List (List V × List PyData)} {e e' : Ent} {F : Ent → List Ent} {a p : Addr} {Q : VK} {v x y : V} {d d' : PyData} {ds es : List PyData} {vs xs : List V} {w : Bool} {σ : L2.St}
theorem Hs.argI {i : Int} (h : Hs K B Z H L ((vs, .int i :: ds) :: M)) : ∃ xs, vs = .int i :: xs ∧ Hs K B Z H L ((xs, ds) :: M) := by
  have q := h.dp _ List.mem_cons_self
  cases q with
  | cons h1 h2 => obtain rfl := h1.int_inv; exact ⟨_, rfl, h.tl.fact h2⟩
theorem Hs.argS {z : Str} (h : Hs K B Z H L ((vs, .str z :: ds) :: M)) : ∃ xs, vs = .str z :: xs ∧ Hs K B Z H L ((xs, ds) :: M) := by
  have q := h.dp _ List.mem_cons_self
  cases q with
  | cons h1 h2 => obtain rfl := h1.str_inv; exact ⟨_, rfl, h.tl.fact h2⟩
theorem Hs.argB {z : Bool} (h : Hs K B Z H L ((vs, .bool z :: ds) :: M)) : ∃ xs, vs = .bl z :: xs ∧ Hs K B Z H L ((xs, ds) :: M) := by
  have q := h.dp _ List.mem_cons_self
  cases q with
  | cons h1 h2 => obtain rfl := h1.bl_inv; exact ⟨_, rfl, h.tl.fact h2⟩
theorem k_vA {S : List PyData → (PyData → Prop) → Prop} {E : XK} (h : Hs K B Z H L M) (q : Dts K Z H vs ds) (mono : ∀ φ ψ : PyData → Prop, (∀ d, φ d → ψ d) → S ds φ → S ds ψ) (s : S ds (RetG K B Z H L M Q)) : spV K S (vs ++ []) H Q E := by
  rw [List.append_nil]; exact k_v h q s mono
theorem k_wA {S : List PyData → (PyData → Prop) → Prop} {E : XK} (h : Hs K B Z H L M) (l : Loc L (.pool a) F) (q : Dts K Z H vs ds) (mono : ∀ φ ψ : PyData → Prop, (∀ d, φ d → ψ d) → S ds φ → S ds ψ) (s : S ds (RetG K B Z H L M Q)) : spW K S ((.ref a :: vs) ++ []) H Q E := by
  rw [List.append_nil]; exact k_w h l q s mono
theorem k_vlA {S : List PyData → (List PyData → Prop) → Prop} {E : XK} (h : Hs K B Z H L M) (q : Dts K Z H vs ds) (mono : ∀ φ ψ : List PyData → Prop, (∀ d, φ d → ψ d) → S ds φ → S ds ψ) (s : S ds (RetL K B Z H L M Q)) : spVL K S (vs ++ []) H Q E := by
  rw [List.append_nil]; exact k_vl h q s mono
theorem k_wlA {S : List PyData → (List PyData → Prop) → Prop} {E : XK} (h : Hs K B Z H L M) (l : Loc L (.pool a) F) (q : Dts K Z H vs ds) (mono : ∀ φ ψ : List PyData → Prop, (∀ d, φ d → ψ d) → S ds φ → S ds ψ) (s : S ds (RetL K B Z H L M Q)) : spWL K S ((.ref a :: vs) ++ []) H Q E := by
  rw [List.append_nil]; exact k_wl h l q s mono
end
/-! # data without truth values: == is equality -/
mutual
def noB : PyData → Bool
  | .none | .int _ | .str _ => true
  | .bool _ | .dict _ => false
  | .list xs | .tuple xs => noBs xs
def noBs : List PyData → Bool
  | [] => true
  | x :: xs => noB x && noBs xs
end
mutual
theorem eqv_iff : ∀ d e : PyData, noB d = true → noB e = true → (PyData.eqv d e = true ↔ d = e)
  | .none, .none, _, _ => by simp [PyData.eqv]
  | .int i, .int j, _, _ => by simp [PyData.eqv]
  | .str i, .str j, _, _ => by simp [PyData.eqv]
  | .list xs, .list ys, h, h' => by
    simp only [PyData.eqv, PyData.list.injEq]
    exact eqvAll_iff xs ys (by simpa [noB] using h) (by simpa [noB] using h')
  | .tuple xs, .tuple ys, h, h' => by
    simp only [PyData.eqv, PyData.tuple.injEq]
    exact eqvAll_iff xs ys (by simpa [noB] using h) (by simpa [noB] using h')
  | .none, .int _, _, _ | .none, .str _, _, _ | .none, .list _, _, _ | .none, .tuple _, _, _ => by simp [PyData.eqv]
  | .int _, .none, _, _ | .int _, .str _, _, _ | .int _, .list _, _, _ | .int _, .tuple _, _, _ => by simp [PyData.eqv]
  | .str _, .none, _, _ | .str _, .int _, _, _ | .str _, .list _, _, _ | .str _, .tuple _, _, _ => by simp [PyData.eqv]
  | .list _, .none, _, _ | .list _, .int _, _, _ | .list _, .str _, _, _ | .list _, .tuple _, _, _ => by simp [PyData.eqv]
  | .tuple _, .none, _, _ | .tuple _, .int _, _, _ | .tuple _, .str _, _, _ | .tuple _, .list _, _, _ => by simp [PyData.eqv]
  | .bool _, _, h, _ => by simp [noB] at h
  | .dict _, _, h, _ => by simp [noB] at h
  | _, .bool _, _, h => by simp [noB] at h
  | _, .dict _, _, h => by simp [noB] at h
theorem eqvAll_iff : ∀ xs ys : List PyData, noBs xs = true → noBs ys = true → (PyData.eqvAll xs ys = true ↔ xs = ys)
  | [], [], _, _ => by simp [PyData.eqvAll]
  | x :: xs, y :: ys, h, h' => by
    simp only [noBs, Bool.and_eq_true] at h h'
    simp only [PyData.eqvAll, Bool.and_eq_true, List.cons.injEq, eqv_iff x y h.1 h'.1, eqvAll_iff xs ys h.2 h'.2]
  | [], _ :: _, _, _ => by simp [PyData.eqvAll]
  | _ :: _, [], _, _ => by simp [PyData.eqvAll]
end
theorem any_iff {xs : List PyData} {d : PyData} (h : noBs xs = true) (h' : noB d = true) : (xs.any fun y => PyData.eqv y d) = true ↔ d ∈ xs := by
  induction xs with
  | nil => simp
  | cons x xs ih =>
    simp only [noBs, Bool.and_eq_true] at h
    rw [List.any_cons, Bool.or_eq_true, ih h.2, eqv_iff x d h.1 h', List.mem_cons]
    constructor
    · rintro (z | z)
      · exact .inl z.symm
      · exact .inr z
    · rintro (z | z)
      · exact .inl z.symm
      · exact .inr z
theorem noBs_map {α : Type} (f : α → PyData) (h : ∀ x, noB (f x) = true) : ∀ l : List α, noBs (l.map f) = true
  | [] => rfl
  | x :: r => by simp [noBs, h x, noBs_map f h r]
theorem dep_map {α : Type} (f : α → PyData) (n : Nat) (h : ∀ x, (f x).depth ≤ n) : ∀ l : List α, PyData.depthAll (l.map f) ≤ n
  | [] => Nat.zero_le _
  | x :: r => by
    show max _ _ ≤ n
    exact Nat.max_le.mpr ⟨h x, dep_map f n h r⟩
end U

set_option Elab.async false
set_option linter.all false
set_option autoImplicit false
set_option maxRecDepth 100000
set_option maxHeartbeats 4000000
namespace U
open PySem PySem.Spec PyProof.Rows L2
/-! ## the values of a locked dict with tuple keys -/
section
variable {X : Cx} {pins : List (Addr × Obj)} {σ : L2.St} {H : Hp} {s : Shared} {d : Addr} {o : Obj}
theorem frzT_vals {kvs : List (List Key × V)} (I : Inv X pins σ H s) (h : H d = some (.frz o (.dT kvs))) :
    (d == sysModules) = false ∧ s.heap.get? d = some o ∧ o.ExactDict ∧ ∃ (es : Array DictEntry) (ep : Nat), o.data = .dict es ep ∧ es.size = kvs.length ∧
      ∀ (i : Nat) (k : List Key) (v : V), kvs[i]? = some (k, v) → ∃ (en : DictEntry), es[i]? = some en ∧ RelV v en.val := by
  obtain ⟨hd, z, hs, xs, pr, o', es, ep, ho, hx, hdt, he, _⟩ := I.hok d _ h
  rw [hd] at ho
  cases ho
  refine ⟨hs, hd, hx, es, ep, hdt, ?_, fun i k v e => ?_⟩
  · have l1 : es.size = xs.length := size_of_entries he
    have l2 : kvs.length = xs.length := Paired.length pr
    omega
  · obtain ⟨b, hb, e1, e2, e3⟩ := paired_get pr e
    have q := entry_at he i
    rw [hb] at q
    exact ⟨_, q, e3⟩
end
def Itdt (d : Addr) (o : Obj) (kvs : List (List Key × V)) : It :=
  ⟨fun i H => H d = some (.frz o (.dT kvs)) ∧ i < kvs.length, fun i H x H' => H' = H ∧ ∃ k, kvs[i]? = some (k, x), fun i H => H d = some (.frz o (.dT kvs)) ∧ kvs.length ≤ i⟩
section
variable {P : Program} {w : World} {K : PySem.W.Frag} {tg : Expr} {d : Addr} {o : Obj} {es : Array DictEntry} {ep : Nat}
theorem turn_valsT {kvs : List (List Key × V)} (it : Addr) (hod : o.data = .dict es ep) : Turn P w K tg (Itdt d o kvs) [it] it (fun i h => h.IsValIter it d i es.size ep) where
  mem := by simp
  obj := fun i h st b hb => by
    have e : b = it := by simpa using hb
    subst e
    obtain ⟨oi, e, c, dd⟩ := st
    exact ⟨oi, e, fun v z => by rw [dd] at z; cases z⟩
  keep := fun i h h' st k => by
    obtain ⟨oi, e, r⟩ := st
    exact ⟨oi, k it (by simp) oi e, r⟩
  item := by
    intro X hP hw hK hc i pins s σ H E I hf st hg
    subst hP hw hK
    obtain ⟨hd, hi⟩ := hg
    obtain ⟨f0, f1, f2, f3, f4, f5⟩ := hf it (by simp)
    obtain ⟨hs, hgd, hx, es', ep', hdt, hsz, ent⟩ := frzT_vals I hd
    obtain ⟨rfl, rfl⟩ := dict_ep hod hdt
    obtain ⟨⟨k, v⟩, hkv⟩ : ∃ p, kvs[i]? = some p := ⟨kvs[i], List.getElem?_eq_getElem hi⟩
    obtain ⟨en, hen, hrel⟩ := ent i k v hkv
    obtain ⟨hlt, hen2⟩ := Array.getElem?_eq_some_iff.mp hen
    refine wpAny_pyNext_values_item_raw st ⟨o, hgd, hx, hdt⟩ hlt fun h' st' sb => ?_
    have I1 : Inv X pins σ H { s with heap := h' } := I.turned (t' := s.toks) (fun b ob hb e => (sb.2 b hb).trans e) f0 f1 f3 f4 f5
    obtain ⟨oi, e, c, dd⟩ := id st'
    refine ⟨_, rfl, go_of (s := { s with heap := h' }) e c dd (by decide) ⟨v, H, I1, by rw [hen2]; exact hrel, ⟨rfl, k, hkv⟩, st', fun b hb => (hf b hb).1⟩⟩
  done := by
    intro X hP hw hK hc i pins s σ H E I hf st hg
    subst hP hw hK
    obtain ⟨hd, hi⟩ := hg
    obtain ⟨f0, f1, f2, f3, f4, f5⟩ := hf it (by simp)
    obtain ⟨hs, hgd, hx, es', ep', hdt, hsz, ent⟩ := frzT_vals I hd
    obtain ⟨rfl, rfl⟩ := dict_ep hod hdt
    exact wpAny_pyNext_values_end_raw (I.ok.hd hc) st ⟨o, hgd, hx, hdt⟩ (by rw [hsz]; exact hi) fun h' eb => ⟨rfl, I.turned (t' := s.toks) (fun b ob hb e => eb b ob hb e) f0 f1 f3 f4 f5⟩
  self := fun A i s Q E st h => wpAny_pyIter_valiter st h
end
def iValsT (td : TE) : TI := fun σ H R => td σ H fun x H1 => ∃ d o kvs, x = .ref d ∧ H1 d = some (.frz o (.dT kvs)) ∧ R (Itdt d o kvs) H1
section
variable {X : Cx} {tg e : Expr} {td : TE} {apos cpos : Pos}
theorem pi_valuesT (he : PE X e td) (hbase : attributeBase e "values" X.env (eval e X.env) = eval e X.env := by rfl) (hline : (apos.endLine == cpos.line) = true := by rfl) : PI X tg (.Call (.Attribute e "values" apos) [] [] cpos) (iValsT td) := by
  refine ⟨fun pins s σ H R I h => ?_⟩
  refine wpAny_Call_method (T := "dict") (id := "dict.values") hbase rfl hline F.plainAttrs_dict F.slot_dict_values F.type_dict_values (thn (he.run pins s σ H _ I h) fun u s1 ⟨x, H1, I1, rx, d, o, kvs, ex, hd, q⟩ => ?_)
  subst ex
  obtain rfl : u = Value.ref d := rx
  obtain ⟨hs, hgd, hx, es, ep, hdt, hsz, ent⟩ := frzT_vals I1 hd
  have hm : s1.heap.DictRaw d es ep := ⟨o, hgd, hx, hdt⟩
  refine ⟨hm.typeIs, fun b q => ?_, ?_⟩
  · cases q
    exact ⟨o, hgd, hx.2.1⟩
  have I2 : Inv X pins σ H1 { s1 with heap := s1.heap.push { cls := .type "dict_values", data := .fields #[.ref d] } } := I1.kept (t' := s1.toks) fun b ob q => Heap.get?_push_of_some _ q
  have fin : wpAny (model X.prog X.w) X.A (pyIter (.ref s1.heap.objs.size)) (PIE X pins σ tg R) X.xe { s1 with heap := s1.heap.push { cls := .type "dict_values", data := .fields #[.ref d] } } := by
    refine wpAny_pyIter_values_raw (d := d) ⟨_, Heap.get?_push_size _ rfl, rfl, rfl⟩ (hm.at fun o e => Heap.get?_push_of_some _ e) (pi_one (tk := s1.toks) I2 _ (turn_valsT _ hdt) ⟨_, Heap.get?_push_size _ rfl, rfl, rfl⟩ q)
  show wpAny _ _ (callWith cpos (.builtin "dict.values") [.ref d] [] []) _ X.xe s1
  exact method_meetsIn F.slot_dict_values F.entry_dict_values rfl (PySem.evalArgs_none ⟨rfl, hm.typeIs, F.args_dict_values_1 _, _, meets_dict_values_raw d hs, ⟨⟨es, ep, hm⟩, fin⟩⟩)
end
/-! ## min, max of a tuple of ints -/
def rMinT (K : PySem.W.Frag) : List V → Hp → VK → Prop := fun vs H Q => ∃ (a : Addr) (n : Int) (ns : List Int), vs = [V.ref a] ∧ SqT K H a ((n :: ns).map V.int) ∧ Q (.int (ns.foldl min n)) H
theorem alike_ints (ns : List Int) : PySem.W.AlikeAll (ns.map PyData.int) := by
  refine ⟨fun x hx y hy => ?_, fun x hx => ?_⟩
  · obtain ⟨i, _, rfl⟩ := List.mem_map.mp hx
    obtain ⟨j, _, rfl⟩ := List.mem_map.mp hy
    rfl
  · obtain ⟨i, _, rfl⟩ := List.mem_map.mp hx
    intro z; cases z
theorem dep_ints : ∀ ns : List Int, PyData.depthAll (ns.map PyData.int) = 0
  | [] => rfl
  | n :: r => by
    show max 0 (PyData.depthAll (r.map PyData.int)) = 0
    rw [dep_ints r]
    rfl
theorem dpAll_ints {K : PySem.W.Frag} {H : Hp} : ∀ ns : List Int, DpAll K H (ns.map V.int) (ns.map PyData.int)
  | [] => .nil
  | n :: r => .cons (.int n) (dpAll_ints r)
theorem cr_minT {X : Cx} (hc : X.calm = true) (hu : X.A.units + 64 < cLine) (K : PySem.W.Frag) (hK : X.K = K := by rfl) : CallR X (.builtin "min") (rMinT K) := by
  subst hK
  intro pins s σ H vs us Q I r h
  obtain ⟨a, n, ns, rfl, hs, q⟩ := h
  obtain ⟨its, rv, hl, _⟩ := I.tuple hs
  rw [Vals.ref1 r]
  obtain ⟨as, hr⟩ := Dp.readsAll I _ _ its (dpAll_ints (n :: ns)) rv
  obtain ⟨o, ho, hc', nn, hd⟩ := id hl
  refine PySem.W.min_tuple_data (vs := its.toArray) (x := .int n) (xs := ns.map .int) (as := as) (I.ok.hd hc) ⟨o, ho, hc', nn, hd⟩ (by simpa using hr) (alike_ints (n :: ns)) (by have := dep_ints (n :: ns); rw [List.map_cons] at this; rw [this]; omega) fun i v h' tk bs hi hrd hk => ?_
  rw [PySem.W.minD_ints] at hrd
  cases hrd
  exact ⟨.int _, H, I.kept hk, ⟨_, rfl⟩, q⟩
end U

set_option Elab.async false
set_option linter.all false
set_option autoImplicit false
set_option maxRecDepth 100000
set_option maxHeartbeats 4000000
namespace U
open PySem PySem.Spec PyProof.Rows L2
section
variable {X : Cx} (K : PySem.W.Frag)
theorem catAK (h : X.K = K := by rfl) : OpR X (binaryOp .Add) (rCatA K) := by subst h; exact op_catA
theorem sltAK (h : X.K = K := by rfl) : SlR X (rSlA K) := by subst h; exact sl_tupA
theorem repTK (h : X.K = K := by rfl) : OpR X (binaryOp .Mult) (rRepT K) := by subst h; exact op_repT
end
/-! ## list or tuple, whichever it is -/
def rIxA (K : PySem.W.Frag) : R2 := fun x y H Q => rIxL K x y H Q ∨ rIxT K x y H Q
theorem ixAK {X : Cx} (K : PySem.W.Frag) (hK : X.K = K := by rfl) : IxR X (rIxA K) := by
  subst hK
  intro value slice pins s σ H x y v u Q I rx ry h hs
  rcases h with h | h
  · exact ix_list value slice pins s σ H x y v u Q I rx ry h hs
  · exact ix_tup value slice pins s σ H x y v u Q I rx ry h hs
def ItA (K : PySem.W.Frag) (x : V) (R : It → Hp → Prop) (H : Hp) : Prop := ItLq K x R H ∨ ItTq K x R H
def iAny (K : PySem.W.Frag) (tl : TE) : TI := fun σ H R => tl σ H fun x H1 => ItA K x R H1
theorem piAK {X : Cx} {tg l : Expr} {tl : TE} (K : PySem.W.Frag) (hl : PE X l tl) (hK : X.K = K := by rfl) : PI X tg l (iAny K tl) := by
  subst hK
  refine ⟨fun pins s σ H R I h => ?_⟩
  refine thn (hl.run pins s σ H _ I h) fun v s1 ⟨x, H1, I1, r1, q1⟩ => ?_
  rcases q1 with ⟨a, e, ⟨xs, hq⟩, q⟩ | ⟨a, e, ⟨xs, hq⟩, q⟩
  · subst e
    cases r1
    obtain ⟨its, rv, p, hz⟩ := I1.list hq
    refine wpAny_pyIter_list p.isList ?_
    refine ⟨s1.heap.objs.size, [s1.heap.objs.size], _, _, H1, rfl, I1.kept (t' := s1.toks) fun b o e => Heap.get?_push_of_some _ e, turn_list a _, ⟨_, Heap.get?_push_size _ rfl, rfl, rfl⟩, fun b hb => ?_, q⟩
    have e : b = s1.heap.objs.size := by simpa using hb
    subst e
    exact I1.fpOk (Nat.le_refl _) (I1.hok.fresh (Nat.le_refl _))
  · subst e
    cases r1
    obtain ⟨its, rv, p, hz⟩ := I1.tuple hq
    refine wpAny_pyIter_tuple (show s1.heap.IsTuple a its.toArray from p) ?_
    refine ⟨s1.heap.objs.size, [s1.heap.objs.size], _, _, H1, rfl, I1.kept (t' := s1.toks) fun b o e => Heap.get?_push_of_some _ e, turn_tuple a _, ⟨_, Heap.get?_push_size _ rfl, rfl, rfl⟩, fun b hb => ?_, q⟩
    have e : b = s1.heap.objs.size := by simpa using hb
    subst e
    exact I1.fpOk (Nat.le_refl _) (I1.hok.fresh (Nat.le_refl _))
theorem u_iA {K : PySem.W.Frag} {tl : TE} {σ : L2.St} {H : Hp} {R : It → Hp → Prop} (h : tl σ H fun x H1 => ItA K x R H1) : iAny K tl σ H R := h
theorem u_chain {r r' : R2} {ta tb tc : TE} {σ : L2.St} {H : Hp} {Q : VK} (h : ta σ H fun x H1 => tb σ H1 fun y H2 => r x y H2 fun z H3 => TB z (fun k => Br k (fun H4 => tc σ H4 fun w' H5 => r' y w' H5 Q) (fun H4 => Q (.bl false) H4)) H3) : tChain r r' ta tb tc σ H Q := h
/-- x * n, x any short text -/
def rRepG : R2 := fun x y H Q => ∃ (z : Str) (n : Int), x = .str z ∧ y = .int n ∧ 0 ≤ n ∧ n ≤ 10000 ∧ z.length ≤ 1000 ∧ Q (.str (Txt.mul z n)) H
theorem o_repG {X : Cx} : OpR X (binaryOp .Mult) rRepG := by
  intro pins s σ H x y v u Q I rx ry h
  obtain ⟨c, n, rfl, rfl, h0, h1, hl, q⟩ := h
  obtain ⟨t, rfl⟩ := rx
  obtain ⟨t', rfl⟩ := ry
  refine PySem.SB.mul ⟨?_, fun p _ => ?_, fun p _ => ?_⟩ fun t' k => ⟨.str _, H, I.tok _, ⟨_, rfl⟩, q⟩
  · rw [Bool.or_eq_false_iff]
    exact ⟨decide_eq_false (by omega), decide_eq_false (by omega)⟩
  · have : (c.length : Int) ≤ (2 ^ 63 - 1) / n := by
      refine (Int.le_ediv_iff_mul_le (by omega)).mpr ?_
      have e1 : (c.length : Int) * n ≤ 1000 * 10000 := Int.mul_le_mul (by omega) h1 h0 (by omega)
      omega
    omega
  · unfold Builtin.Str.tooLong
    refine decide_eq_false ?_
    have e : sizeLine = 16777216 := by decide
    have e1 : c.length * n.toNat ≤ 1000 * 10000 := Nat.mul_le_mul hl (by omega)
    rw [e]
    omega
theorem f_repG {z : Str} {n : Int} {H : Hp} {Q : VK} (h0 : 0 ≤ n) (h1 : n ≤ 10000) (hl : z.length ≤ 1000) (k : ∀ y : Str, (y.length : Int) = z.length * n → Q (.str y) H) : rRepG (.str z) (.int n) H Q :=
  ⟨z, n, rfl, rfl, h0, h1, hl, k _ (by rw [PyProof.Rows.len_mul, decide_eq_false (show ¬ n < 0 by omega)]; rfl)⟩
theorem u_isNi {i : Int} {H : Hp} {Q : VK} (q : Q (.bl false) H) : rIsN (.int i) .non H Q := ⟨rfl, q⟩
theorem u_isNb {i : Bool} {H : Hp} {Q : VK} (q : Q (.bl false) H) : rIsN (.bl i) .non H Q := ⟨rfl, q⟩
theorem u_isNs {i : Str} {H : Hp} {Q : VK} (q : Q (.bl false) H) : rIsN (.str i) .non H Q := ⟨rfl, q⟩
mutual
/-- the longest list or tuple within -/
def wid : PyData → Nat
  | .list xs | .tuple xs => max xs.length (wids xs)
  | .none | .bool _ | .int _ | .str _ | .dict _ => 0
def wids : List PyData → Nat
  | [] => 0
  | x :: xs => max (wid x) (wids xs)
end
theorem wid_mem : ∀ {es : List PyData} {i : Nat} {e : PyData}, es[i]? = some e → wid e ≤ wids es
  | [], _, _, h => by cases h
  | a :: r, 0, e, h => by cases h; exact Nat.le_max_left _ _
  | a :: r, i + 1, e, h => Nat.le_trans (wid_mem (es := r) h) (Nat.le_max_right _ _)
theorem dep_mem : ∀ {es : List PyData} {i : Nat} {e : PyData}, es[i]? = some e → e.depth ≤ PyData.depthAll es
  | [], _, _, h => by cases h
  | a :: r, 0, e, h => by cases h; exact Nat.le_max_left _ _
  | a :: r, i + 1, e, h => Nat.le_trans (dep_mem (es := r) h) (Nat.le_max_right _ _)
theorem wid_map {α : Type} (f : α → PyData) (n : Nat) (h : ∀ x, wid (f x) ≤ n) : ∀ l : List α, wids (l.map f) ≤ n
  | [] => Nat.zero_le _
  | x :: r => by
    show max _ _ ≤ n
    exact Nat.max_le.mpr ⟨h x, wid_map f n h r⟩
def rUpp : V → List V → Hp → VK → Prop := fun x xs H Q => ∃ a, x = .str a ∧ xs = [] ∧ a.length ≤ 5592405 ∧ Q (.str (Txt.upper a)) H
theorem m_upper {X : Cx} : MtR X "str.upper" rUpp := mt_upper
theorem f_upp {a : Str} {H : Hp} {Q : VK} (h : a.length ≤ 100000) (k : ∀ z, Str.length z ≤ 3 * a.length → Q (.str z) H) : rUpp (.str a) [] H Q := ⟨a, rfl, rfl, by omega, k _ (PyProof.Rows.len_upper a)⟩
section
variable {K : PySem.W.Frag} {B : Bs} {H H' : Hp} {Z Z' : List Addr} {L L' : List Ent} {M M' : List (List V × List PyData)} {e e' : Ent} {F : Ent → List Ent} {a p : Addr} {Q : VK} {v x y : V} {d d' : PyData} {ds es : List PyData} {vs xs : List V} {w : Bool} {σ : L2.St}
theorem h_slT {lo hi : Option Int} (h : Hs K B Z H L M) (m : Dt K Z H v (.tuple ds)) (k : ∀ q H', Hs K B Z H' L (([q], [.tuple (cutD ds lo hi)]) :: M) → Q q H') : rSlA K v lo hi H Q := by
  obtain ⟨a, ys, rfl, t, q⟩ := m.tup_inv
  refine ⟨a, ys, rfl, t.sq, fun hw => ?_, fun hw p hp => k _ _ ((h.same (Kp.new hp)).fact1 (.tup upd_same (q.cut.im (Kp.new hp).im)))⟩
  have e : cutD ds lo hi = ds := by
    unfold cutD
    rw [q.length] at hw
    rw [hw.1, hw.2, List.drop_zero, Nat.sub_zero, List.take_length]
  exact k _ _ (h.fact1 (by rw [e]; exact m))
theorem cut_to3 {d1 d2 d3 : PyData} {ds : List PyData} : cutD (d1 :: d2 :: d3 :: ds) none (some 3) = [d1, d2, d3] := by
  unfold cutD
  have e : HT.sIx (d1 :: d2 :: d3 :: ds).length (d1 :: d2 :: d3 :: ds).length (some 3) = 3 := by
    show HT.sIx _ _ (some ((3 : Nat) : Int)) = 3
    rw [HT.sIx_nat]
    simp only [List.length_cons]
    omega
  rw [e]
  rfl
theorem cut_from1 {d1 : PyData} {ds : List PyData} : cutD (d1 :: ds) (some 1) none = ds := by
  unfold cutD
  have e : HT.sIx (d1 :: ds).length 0 (some 1) = 1 := by
    show HT.sIx _ _ (some ((1 : Nat) : Int)) = 1
    rw [HT.sIx_nat]
    simp only [List.length_cons]
    omega
  have e2 : HT.sIx (d1 :: ds).length (d1 :: ds).length none = ds.length + 1 := rfl
  rw [e, e2, Nat.add_sub_cancel]
  show ds.take ds.length = ds
  exact List.take_length
theorem h_sl3 {d1 d2 d3 : PyData} (h : Hs K B Z H L M) (m : Dt K Z H v (.tuple (d1 :: d2 :: d3 :: ds))) (k : ∀ q H', Hs K B Z H' L (([q], [.tuple [d1, d2, d3]]) :: M) → Q q H') : rSlA K v none (some 3) H Q :=
  h_slT h m fun q H' h' => k q H' (by rw [cut_to3] at h'; exact h')
theorem h_slf1 {d1 : PyData} (h : Hs K B Z H L M) (m : Dt K Z H v (.tuple (d1 :: ds))) (k : ∀ q H', Hs K B Z H' L (([q], [.tuple ds]) :: M) → Q q H') : rSlA K v (some 1) none H Q :=
  h_slT h m fun q H' h' => k q H' (by rw [cut_from1] at h'; exact h')
theorem map_snoc {α β : Type} (f : α → β) (l : List α) (c : α) : (l ++ [c]).map f = l.map f ++ [f c] := by simp
theorem h_catT (h : Hs K B Z H L M) (m : Dt K Z H x (.tuple ds)) (m' : Dt K Z H y (.tuple es)) (hl : ds.length + es.length ≤ 100000) (k : ∀ q H', Hs K B Z H' L (([q], [.tuple (ds ++ es)]) :: M) → Q q H') : rCatA K x y H Q := by
  obtain ⟨a, ys, rfl, t, q⟩ := m.tup_inv
  obtain ⟨b, zs, rfl, t', q'⟩ := m'.tup_inv
  refine ⟨a, b, ys, zs, rfl, rfl, t.sq, t'.sq, sl5 (by rw [q.length, q'.length]; exact hl), fun e => ?_, fun e e' => ?_, fun e e' p hp => ?_⟩
  all_goals first
    | exact k _ _ ((h.same (Kp.new hp)).fact1 (.tup upd_same ((q.append q').im (Kp.new hp).im)))
    | skip
  · subst e
    have e2 : ds = [] := List.eq_nil_of_length_eq_zero (by have := q.length; simp at this; omega)
    exact k _ _ (h.fact1 (by rw [e2]; exact m'))
  · subst e'
    have e2 : es = [] := List.eq_nil_of_length_eq_zero (by have := q'.length; simp at this; omega)
    exact k _ _ (h.fact1 (by rw [e2, List.append_nil]; exact m))
theorem h_catTe {fs : List PyData} (h : Hs K B Z H L M) (m : Dt K Z H x (.tuple ds)) (m' : Dt K Z H y (.tuple es)) (hl : ds.length + es.length ≤ 100000) (e : ds ++ es = fs) (k : ∀ q H', Hs K B Z H' L (([q], [.tuple fs]) :: M) → Q q H') : rCatA K x y H Q := by
  subst e
  exact h_catT h m m' hl k
theorem h_catLe {fs : List PyData} (h : Hs K B Z H L M) (l : DLv K Z H x ds) (l' : DLv K Z H y es) (hl : ds.length + es.length ≤ 100000) (e : ds ++ es = fs) (k : ∀ q H', Hs K B Z H' (.dl K q fs true :: L) M → Q (.ref q) H') : rCat x y H Q := by
  subst e
  exact h_catL h l l' hl k
theorem Dts.ints_inv : ∀ (ns : List Int) {xs : List V}, Dts K Z H xs (ns.map PyData.int) → xs = ns.map V.int
  | [], _, h => by cases h; rfl
  | n :: r, _, h => by
    cases h with
    | cons h1 h2 => rw [h1.int_inv, Dts.ints_inv r h2]; rfl
theorem h_ixLm {i : Int} (h : Hs K B Z H L M) (l : DLv K Z H v ds) (h0 : 0 ≤ i) (h1 : i < ds.length) (k : ∀ d ∈ ds, ∀ x, Dt K Z H x d → Hs K B Z H L (([x], [d]) :: M) → Q x H) : rIxL K v (.int i) H Q := by
  obtain ⟨n, rfl⟩ : ∃ n : Nat, i = (n : Int) := ⟨i.toNat, by omega⟩
  have hn : n < ds.length := by omega
  have e : ds[n]? = some ds[n] := List.getElem?_eq_getElem hn
  exact h_ixL h l (atI_nat e) fun x q hs => k _ (List.getElem_mem hn) x q hs
theorem h_ixLz {N : Nat} {i : Int} (h : Hs K B Z H L M) (l : DLv K Z H v ds) (h0 : 0 ≤ i) (h1 : i < ds.length) (ha : ∀ d ∈ ds, ∃ z : Str, d = .str z ∧ z.length ≤ N) (k : ∀ z : Str, z.length ≤ N → Q (.str z) H) : rIxL K v (.int i) H Q :=
  h_ixLm h l h0 h1 fun d hd x q _ => by
    obtain ⟨z, rfl, hz⟩ := ha d hd
    rw [q.str_inv]
    exact k z hz
theorem h_ixLn {lo hi i : Int} (h : Hs K B Z H L M) (l : DLv K Z H v ds) (h0 : 0 ≤ i) (h1 : i < ds.length) (ha : ∀ d ∈ ds, ∃ z : Int, d = .int z ∧ lo ≤ z ∧ z ≤ hi) (k : ∀ z : Int, lo ≤ z → z ≤ hi → Q (.int z) H) : rIxL K v (.int i) H Q :=
  h_ixLm h l h0 h1 fun d hd x q _ => by
    obtain ⟨z, rfl, h1, h2⟩ := ha d hd
    rw [q.int_inv]
    exact k z h1 h2
theorem cutD_map {α : Type} (f : α → PyData) (l : List α) (lo hi : Option Int) : ∃ l' : List α, cutD (l.map f) lo hi = l'.map f ∧ l'.length ≤ l.length ∧ ∀ x ∈ l', x ∈ l := by
  refine ⟨(l.drop (HT.sIx (l.map f).length 0 lo)).take (HT.sIx (l.map f).length (l.map f).length hi - HT.sIx (l.map f).length 0 lo), ?_, ?_, ?_⟩
  · unfold cutD
    rw [List.map_take, List.map_drop]
  · rw [List.length_take, List.length_drop]; omega
  · intro x hx
    exact List.mem_of_mem_drop (List.mem_of_mem_take hx)
theorem cut_len (ds : List PyData) (lo hi : Option Int) : (cutD ds lo hi).length ≤ ds.length := by
  unfold cutD
  rw [List.length_take, List.length_drop]
  omega
def isI : PyData → Bool
  | .int _ => true
  | _ => false
theorem isI_inv {d : PyData} (h : isI d = true) : ∃ z, d = .int z := by
  cases d <;> first | exact ⟨_, rfl⟩ | cases h
theorem h_slLf {α : Type} {f : α → PyData} {l : List α} {lo hi : Option Int} (h : Hs K B Z H L M) (m : DLv K Z H v (l.map f)) (k : ∀ (l' : List α) q H', l'.length ≤ l.length → (∀ x ∈ l', x ∈ l) → Hs K B Z H' (.dl K q (l'.map f) true :: L) M → Q (.ref q) H') : rSlL K v lo hi H Q :=
  h_slL h m fun q H' h' => by
    obtain ⟨l', e, h1, h2⟩ := cutD_map f l lo hi
    rw [e] at h'
    exact k l' q H' h1 h2 h'
theorem h_ixLia {i : Int} (h : Hs K B Z H L M) (l : DLv K Z H v ds) (h0 : 0 ≤ i) (h1 : i < ds.length) (ha : ds.all isI = true) (k : ∀ z : Int, Q (.int z) H) : rIxL K v (.int i) H Q :=
  h_ixLm h l h0 h1 fun d hd x q _ => by
    obtain ⟨z, rfl⟩ := isI_inv (List.all_eq_true.mp ha d hd)
    rw [q.int_inv]
    exact k z
theorem h_ixLf {α : Type} {f : α → PyData} {l : List α} {i : Int} (h : Hs K B Z H L M) (m : DLv K Z H v (l.map f)) (h0 : 0 ≤ i) (h1 : i < l.length) (k : ∀ c ∈ l, ∀ x, Dt K Z H x (f c) → Hs K B Z H L (([x], [f c]) :: M) → Q x H) : rIxL K v (.int i) H Q :=
  h_ixLm h m h0 (by rw [List.length_map]; exact h1) fun d hd x q hs => by
    obtain ⟨c, hc, rfl⟩ := List.mem_map.mp hd
    exact k c hc x q hs
theorem h_minT {n : Int} {ns : List Int} (m : Dt K Z H v (.tuple ((n :: ns).map PyData.int))) (k : Q (.int (ns.foldl min n)) H) : rMinT K [v] H Q := by
  obtain ⟨a, ys, rfl, t, q⟩ := m.tup_inv
  have e : ys = (n :: ns).map V.int := Dts.ints_inv _ q
  subst e
  exact ⟨a, n, ns, rfl, t.sq, k⟩
theorem kB_tt : kitB "tuple" "tuple" = some true := by decide +kernel
theorem kB_tl : kitB "tuple" "list" = some false := by decide +kernel
theorem kB_tb : kitB "tuple" "bool" = some false := by decide +kernel
theorem kB_ts : kitB "tuple" "str" = some false := by decide +kernel
theorem kB_ti : kitB "tuple" "int" = some false := by decide +kernel
theorem kB_lt : kitB "list" "tuple" = some false := by decide +kernel
theorem kB_ll : kitB "list" "list" = some true := by decide +kernel
theorem kB_lb : kitB "list" "bool" = some false := by decide +kernel
theorem kB_ls : kitB "list" "str" = some false := by decide +kernel
theorem kB_li : kitB "list" "int" = some false := by decide +kernel
theorem h_ixA {i : Int} (h : Hs K B Z H L M) (m : Dt K Z H v (.tuple ds) ∨ Dt K Z H v (.list ds)) (e : atI ds i = some d) (k : ∀ x, Dt K Z H x d → Hs K B Z H L (([x], [d]) :: M) → Q x H) : rIxA K v (.int i) H Q := by
  rcases m with m | m
  · exact .inr (h_ixT h m e k)
  · exact .inl (h_ixL h m.dlv e k)
theorem h_min4 {n1 n2 n3 n4 : Int} (m : Dt K Z H v (.tuple [.int n1, .int n2, .int n3, .int n4])) (k : ∀ x : Int, x ≤ n1 → x ≤ n2 → x ≤ n3 → x ≤ n4 → (x = n1 ∨ x = n2 ∨ x = n3 ∨ x = n4) → Q (.int x) H) : rMinT K [v] H Q :=
  h_minT (n := n1) (ns := [n2, n3, n4]) m (by
    simp only [List.foldl]
    exact k _ (by omega) (by omega) (by omega) (by omega) (by omega))
/-! ## isinstance of data -/
theorem ty_tup (m : Dt K Z H v (.tuple ds)) : TyX K H v (.type "tuple") := by
  obtain ⟨a, ys, rfl, t, q⟩ := m.tup_inv
  exact .base (.tup t)
theorem ty_lst (m : DLv K Z H v ds) : TyX K H v (.type "list") := by
  obtain ⟨a, rfl, xs, t, q⟩ := m
  exact .base (.lst t)
end
end U

set_option Elab.async false
set_option linter.all false
set_option autoImplicit false
set_option maxRecDepth 100000
set_option maxHeartbeats 4000000
namespace U
open PySem PySem.Spec PyProof.Rows L2
/-! # dicts with tuple keys and data -/
abbrev kD : Key → PyData
  | .inl i => .int i
  | .inr s => .str s
section
variable {κ : Type} [DecidableEq κ]
def valD (kvs : List (κ × PyData)) (k : κ) : Option PyData := (kvs.find? fun kv => decide (kv.1 = k)).map (·.2)
def putD (kvs : List (κ × PyData)) (k : κ) (v : PyData) : List (κ × PyData) :=
  if (kvs.any fun kv => decide (kv.1 = k)) = true then kvs.map (fun kv => if kv.1 = k then (kv.1, v) else kv) else kvs ++ [(k, v)]
end
/-- values and data, key by key -/
inductive DR (K : PySem.W.Frag) (Z : List Addr) (H : Hp) {κ : Type} : List (κ × V) → List (κ × PyData) → Prop
  | nil : DR K Z H [] []
  | cons {k : κ} {v : V} {d : PyData} {r : List (κ × V)} {s : List (κ × PyData)} : Dt K Z H v d → DR K Z H r s → DR K Z H ((k, v) :: r) ((k, d) :: s)
section
variable {K : PySem.W.Frag} {Z Z' : List Addr} {H H' : Hp} {κ : Type} [DecidableEq κ] {r : List (κ × V)} {s : List (κ × PyData)} {k : κ} {v : V} {d : PyData}
theorem DR.im (i : Im Z H H') (h : DR K Z H r s) : DR K Z H' r s := by
  induction h with
  | nil => exact .nil
  | cons a _ ih => exact .cons (Dt.im i _ _ a) ih
theorem DR.zs (i : Z ⊆ Z') (h : DR K Z H r s) : DR K Z' H r s := by
  induction h with
  | nil => exact .nil
  | cons a _ ih => exact .cons (Dt.zs i _ _ a) ih
theorem DR.length (h : DR K Z H r s) : r.length = s.length := by
  induction h with
  | nil => rfl
  | cons _ _ ih => simp [ih]
theorem DR.val (h : DR K Z H r s) (k : κ) : (valV r k = none ∧ valD s k = none) ∨ ∃ v d, valV r k = some v ∧ valD s k = some d ∧ Dt K Z H v d := by
  induction h with
  | nil => exact .inl ⟨rfl, rfl⟩
  | @cons k' v d r s a _ ih =>
    by_cases e : k' = k
    · refine .inr ⟨v, d, valV_pos e, ?_, a⟩
      simp [valD, List.find?_cons, e]
    · have e1 : valV ((k', v) :: r) k = valV r k := valV_neg e
      have e2 : valD ((k', d) :: s) k = valD s k := by simp [valD, List.find?_cons, e]
      rw [e1, e2]
      exact ih
theorem DR.any (h : DR K Z H r s) (k : κ) : (r.any fun kv => decide (kv.1 = k)) = (s.any fun kv => decide (kv.1 = k)) := by
  induction h with
  | nil => rfl
  | cons _ _ ih => simp [ih]
theorem DR.repl (h : DR K Z H r s) (q : Dt K Z H v d) (k : κ) : DR K Z H (r.map fun kv => if kv.1 = k then (kv.1, v) else kv) (s.map fun kv => if kv.1 = k then (kv.1, d) else kv) := by
  induction h with
  | nil => exact .nil
  | @cons k' _ _ _ _ a _ ih =>
    simp only [List.map_cons]
    by_cases e : k' = k
    · rw [if_pos e, if_pos e]; exact .cons q ih
    · rw [if_neg e, if_neg e]; exact .cons a ih
theorem DR.snoc (h : DR K Z H r s) (q : Dt K Z H v d) (k : κ) : DR K Z H (r ++ [(k, v)]) (s ++ [(k, d)]) := by
  induction h with
  | nil => exact .cons q .nil
  | cons a _ ih => exact .cons a ih
theorem DR.put (h : DR K Z H r s) (q : Dt K Z H v d) (k : κ) : DR K Z H (putK r k v) (putD s k d) := by
  unfold putK putD
  rw [h.any k]
  split
  · exact h.repl q k
  · exact h.snoc q k
theorem DR.at' (h : DR K Z H r s) {i : Nat} {kv : κ × V} (e : r[i]? = some kv) : ∃ d, s[i]? = some (kv.1, d) ∧ Dt K Z H kv.2 d := by
  induction h generalizing i with
  | nil => cases e
  | cons a _ ih =>
    cases i with
    | zero => cases e; exact ⟨_, rfl, a⟩
    | succ i => exact ih e
end
def DDt (K : PySem.W.Frag) (Z : List Addr) (H : Hp) (o : Addr) (s : List (List Key × PyData)) : Prop := ∃ r, H o = some (.dT r) ∧ DR K Z H r s
def Ent.dd (K : PySem.W.Frag) (o : Addr) (s : List (List Key × PyData)) (w : Bool) : Ent := ⟨3, [o], w, fun Z H => DDt K Z H o s, fun Z H H' ⟨r, h, d⟩ e i => ⟨r, by rw [e o (by simp)]; exact h, d.im i⟩, fun Z Z' H s ⟨r, h, d⟩ => ⟨r, h, d.zs s⟩, fun Z H ⟨r, h, d⟩ b hb => by rw [one_mem hb]; exact ⟨_, h⟩⟩
def DgA (x : V) (H : Hp) (R : Addr → Prop) : Prop := ∃ a, x = .ref a ∧ IsD H a ∧ R a
def DgB (a : Addr) (y z : V) (H : Hp) (Q : VK) : Prop := ∃ o, DGet H a y o ∧ Q (o.getD z) H
def DpA (x y v : V) (H : Hp) (R : Hp → Prop) : Prop := ∃ a H4, x = .ref a ∧ DPut H a y v H4 ∧ R H4
section
variable {K : PySem.W.Frag} {B : Bs} {H H' : Hp} {Z Z' : List Addr} {L : List Ent} {M : List (List V × List PyData)} {F : Ent → List Ent} {o : Addr} {Q : VK} {v x y z : V} {d dz : PyData} {ks : List Key} {s : List (List Key × PyData)} {w : Bool} {σ : L2.St}
theorem u_dget2 {td ty tx : TE} (h : td σ H fun x H1 => DgA x H1 fun a => ty σ H1 fun y H2 => tx σ H2 fun z H3 => DgB a y z H3 Q) : tDGet2 td ty tx σ H Q := h
theorem u_dput {td ty tv : TE} {D : Ends} (h : tv σ H fun v H1 => td σ H1 fun x H2 => ty σ H2 fun y H3 => DpA x y v H3 (D.nx σ)) : sDPut td ty tv D σ H := h
theorem u_dnewT (h : ∀ p H', H p = none → Kp [] H H' → H' p = some (.dT []) → Q (.ref p) H') : tDNewT σ H Q := fun p hp => h p _ hp (Kp.new hp) upd_same
theorem keyTup (m : Dt K Z H y (.tuple (ks.map kD))) : ∃ b, y = .ref b ∧ H b = some (.tup (ks.map kV)) := by
  obtain ⟨b, xs, rfl, t, q⟩ := m.tup_inv
  refine ⟨b, rfl, ?_⟩
  have e : xs = ks.map kV := by
    clear t m
    induction ks generalizing xs with
    | nil => cases q; rfl
    | cons k r ih =>
      cases q with
      | cons h1 h2 =>
        rw [ih _ h2]
        cases k with
        | inl i => rw [Dt.int_inv h1]; rfl
        | inr z => rw [Dt.str_inv h1]; rfl
  rw [← e]
  exact t
theorem h_dnewT (h : Hs K B Z H L M) (k : ∀ p H', Hs K B Z H' (.dd K p [] true :: L) M → Q (.ref p) H') : tDNewT σ H Q :=
  u_dnewT fun p H' hn hk ho => k p H' (h.new hk (.dd K p [] true) (fun a ha => by rw [one_mem ha]; exact hn) ⟨[], ho, .nil⟩)
theorem h_dgA {R : Addr → Prop} (h : Hs K B Z H L M) (l : Loc L (.dd K o s w) F) (k : R o) : DgA (.ref o) H R := by
  obtain ⟨r, e, _⟩ := (h.get l : DDt K Z H o s)
  exact ⟨o, rfl, .inr ⟨r, .inl e⟩, k⟩
theorem h_dgB (ks : List Key) (h : Hs K B Z H L M) (l : Loc L (.dd K o s w) F) (m : Dt K Z H y (.tuple (ks.map kD))) (mz : Dt K Z H z dz) (k : ∀ x, Hs K B Z H L (([x], [(valD s ks).getD dz]) :: M) → Q x H) : DgB o y z H Q := by
  obtain ⟨r, e, dr⟩ := (h.get l : DDt K Z H o s)
  obtain ⟨b, rfl, hb⟩ := keyTup m
  refine ⟨valV r ks, .t e hb, k _ (h.fact1 ?_)⟩
  rcases dr.val ks with ⟨e1, e2⟩ | ⟨v, d, e1, e2, q⟩
  · rw [e1, e2]; exact mz
  · rw [e1, e2]; exact q
theorem h_dpA {R : Hp → Prop} (ks : List Key) (h : Hs K B Z H L M) (l : Loc L (.dd K o s true) F) (m : Dt K Z H y (.tuple (ks.map kD))) (q : Dt K Z H v d) (hl : s.length < 100000) (k : ∀ H', Hs K B Z H' (F (.dd K o (putD s ks d) true)) M → R H') : DpA (.ref o) y v H R := by
  obtain ⟨r, e, dr⟩ := (h.get l : DDt K Z H o s)
  obtain ⟨b, rfl, hb⟩ := keyTup m
  have im : Im Z H (upd H o (.dT (putK r ks v))) := Kp.mut.imN (fun a ha zs => by rw [one_mem ha, e]; intro z; cases z) fun a ha => by rw [one_mem ha]; exact h.zd _ l.mem o (by simp [Ent.dd])
  refine ⟨o, _, rfl, .t e hb (Nat.lt_of_lt_of_le (by rw [dr.length]; exact hl) (by decide)), k _ (h.put (e' := .dd K o (putD s ks d) true) l rfl Kp.mut (fun a ha => ha) (fun a ha => ha) (fun a ha zs => by rw [one_mem ha, e]; intro z; cases z) ?_ fun a ha => .inl ha)⟩
  exact ⟨_, upd_same, (dr.put q ks).im im⟩
theorem h_sf {p C dx : Addr} {fs : List (Str × V)} {f : Str} {y : V} {R : Hp → Prop} (hc : Cls K C) (hn : NoAttr K C f) (h : Hs K B Z H L M) (l : Loc L (.obj p (.ins C dx fs) true) F) (hl : fs.length < 1000) (k : ∀ H', Hs K B Z H' (F (.obj p (.ins C dx (putF f y fs)) true)) M → R H') : SFq K f (.ref p) y H R :=
  sf_of hc hn (h.obj l) hl fun H' hk ho => k H' (h.put (e' := .obj p (.ins C dx (putF f y fs)) true) l rfl hk (fun a ha => ha) (fun a ha => ha) (fun a ha zs => by rw [one_mem ha, h.obj l]; intro z; cases z) ho fun a ha => .inl ha)
theorem h_fld {p C dx : Addr} {fs : List (Str × V)} {f : Str} (hc : Cls K C) (hn : NoAttr K C f) (h : Hs K B Z H L M) (l : Loc L (.obj p (.ins C dx fs) w) F) (hl : fs.lookup f = some v) (q : Q v H) : FldOf K f (.ref p) H Q := fld_of hc hn (h.obj l) hl q
end
/-! properties -/
def NcPr (P : Program) (w : World) (K : PySem.W.Frag) (mg : Str → Option Value) (base : Heap) (k : Nat) (C : Addr) (f : Str) (sp : Sp) : Prop :=
  ∃ p g fd, PropOf K C f p g ∧ FnOk P w K mg base CX0 k g fd ["self"] sp ∧ Binds K fd ["self"] []
theorem pe_pr {X : Cx} {k : Nat} {C : Addr} {f : Str} {sp : Sp} {E : XK} {e : Expr} {pos : Pos} {ta : TE} (F : NcPr X.prog X.w X.K X.mg X.base k C f sp) (c : Cls X.K C) (hx : Passes CX0 X.nox E) (hr : Room (k + 1) X.A) (he : PE X e ta)
    (hab : attributeBase e f X.env (eval e X.env) = eval e X.env := by rfl) : PE X (.Attribute e f pos) (tProp C sp [] E ta) := by
  obtain ⟨p, g, fd, hp, F, b⟩ := F
  exact pe_prop he c hp F hr b .nil hx hab
def PrQ (C : Addr) (sp : Sp) (E : XK) (x : V) (H : Hp) (Q : VK) : Prop := ∃ a dx fs, x = .ref a ∧ H a = some (.ins C dx fs) ∧ sp [.ref a] H Q E
theorem u_prop {C : Addr} {sp : Sp} {E : XK} {ta : TE} {σ : L2.St} {H : Hp} {Q : VK} (h : ta σ H fun x H1 => PrQ C sp E x H1 Q) : tProp C sp [] E ta σ H Q := h
end U

set_option Elab.async false
set_option linter.all false
set_option autoImplicit false
set_option maxRecDepth 100000
set_option maxHeartbeats 4000000
namespace U
open PySem PySem.Spec PyProof.Rows L2 NdefX
theorem lookA (f g : Str) (y : Addr) : ([(f, y)] : List (Str × Addr)).lookup g = if g = f then some y else none := by
  by_cases h : g = f
  · subst h
    simp [List.lookup]
  · have e : (g == f) = false := by simpa using h
    rw [if_neg h]
    simp [List.lookup, e]
section
variable {X : Cx} {pins : List (Addr × Obj)} {σ : L2.St} {H : Hp} {s : Shared}
/-- the bound ValueError.__init__, called -/
theorem run_supinit {u a C : Addr} {us : List Value} {Q : Value → Shared → Prop} (T : OexC X.K C) (I : Inv X ((u, PySem.W.kxs_mw "ValueError.__init__" a) :: pins) σ H s) (e : H a = some (exo a C none)) (hl : us.length ≤ sizeLine)
    (h : ∀ s', Inv X pins σ H s' → Q .none s') : wpAny (model X.prog X.w) X.A (call (.ref u) us) Q X.xe s := by
  obtain ⟨nm, q, N, bs, bm, sn, sub, ab, col, dd, k0, k1, k2, k3, k5, hC, hbm⟩ := T.cls
  obtain ⟨t1, ho⟩ := exo_at I.hok e
  have hu := ClX.pin_at I
  have I0 := ClX.unpin I
  obtain ⟨hp, g, d, t, os⟩ := s
  have fin : ∀ h' t2, (∀ b o, b ≠ a → hp.get? b = some o → h'.get? b = some o) → h'.get? a = some ({ cls := .ref C, dict := none, data := .fields #[.ref t2, .none, .none, .none, .bool false, .none] } : Obj) → Q .none ⟨h', g, d, t, os⟩ := fun h' t2 k hx => by
    have J := I0.write (t' := t) (x := a) (e := a) (o := exo a C none) (by rw [e]; exact True.intro) (.inl rfl) k ⟨_, hx⟩ (exo_ok hx)
    have eu : upd H a (exo a C none) = H := by
      funext b
      by_cases hb : b = a
      · rw [hb, upd_same, e]
      · rw [upd_ne hb]
    rw [eu] at J
    exact h _ J
  refine wpAny_call (codeAny_of_tree ?_)
  show wpAny _ X.A.in1 (callAny (.ref u) ⟨us, []⟩) _ _ _
  simp only [callAny]
  refine wpAny_bind (wpAny_load hu ?_)
  simp only [PySem.W.kxs_mw, show (Value.type "method-wrapper" == Value.type "method" || Value.type "method-wrapper" == Value.type "builtin_function_or_method" || Value.type "method-wrapper" == Value.type "method-wrapper") = true by decide, if_true]
  refine PySem.W.KFB.if_so (by decide) ?_
  refine wpAny_bind (PySem.W.check_bound_init F.excBase_ValueError.toExcCallFacts (I0.kIn _ _ hC) ho rfl ?_)
  refine wpAny_bind (wpAny_pure (wpAny_pure ?_))
  refine ⟨PySem.plainId_quiet F.excBase_ValueError.init.plain _, codeAny_builtin F.excBase_ValueError.initEntry ?_⟩
  exact PySem.W.exc_init_tree (cls := .ref C) (t0 := t1) (dv := none) (c2 := .none) (c3 := .none) (b4 := .bool false) ho hl fun h' k e' _ => fin h' _ k e'
/-- super().__init__(e, ..) -/
theorem sup_init {body : List Stmt} {p0 p1 p2 p3 : Pos} {e : Expr} {es : List Expr} {ta : TA} {a C f cc cda : Addr} {of oc : Obj} {fd : FuncData} {ar : Arg} {vs : Array Value} {file : Str} {tf : Tok} {cl : Value} {cld : Option Addr} {csl : Array (Option Value)} {ix : Nat} {Q : Hp → Prop}
    (I : Inv X pins σ H s) (T : OexC X.K C) (hv : σ[ix]? = some (some (.ref a))) (hN : X.N[ix]? = some ar.arg) (hka : X.env.scope.names.lookup ar.arg = some .local)
    (hcell : X.env.cells.lookup ("__class__" : Str) = some cc) (lcc : X.K.lookup cc = some ⟨cl, cld, .cell (some (.ref C)), csl⟩)
    (hks : X.env.scope.names.lookup ("super" : Str) = some .globalImplicit) (hkc : X.env.scope.names.lookup ("__class__" : Str) = some .free) (hfu : X.env.func = some f) (lf : X.K.lookup f = some of) (hfd : of.data = .func fd)
    (hp : (fd.params.posonlyargs ++ fd.params.args).head? = some ar) (hco : X.env.code = .ref cda) (lcd : X.K.lookup cda = some oc) (hoc : oc.data = .fields vs) (hvs : vs[2]? = some (.str file tf)) (hfile : ((X.prog.main.file : Str) == file) = true)
    (htop : (X.prog.main.scope.names.lookup ("super" : Str)).isSome = false) (mS : X.mg "super" = none) (any : PySem.W.nsIn X.K cStatics "thirdparty.any" = some none)
    (sup : PySem.W.ks_superIn X.K C C "__init__" = some (some (.builtin "ValueError.__init__"))) (ea : H a = some (exo a C none)) (ha : PA X (e :: es) ta)
    (he : starEach (e :: es) X.env = (false, eval e X.env) :: starEach es X.env) (hpl : (backTo p3 (starEach es X.env)).any (·.1) = false)
    (hc : eval (.Call (.Attribute (.Call (.Name "super" p0) [] [] p1) "__init__" p2) (e :: es) [] p3) X.env = (do
      let ov ← attributeBase (.Call (.Name "super" p0) [] [] p1) "__init__" X.env (eval (.Call (.Name "super" p0) [] [] p1) X.env)
      standAt p2.atName
      let (f, first) ← holding [ov] (getMethod ov "__init__" (pure false))
      callWith p3 f first (backTo p3 (starEach (e :: es) X.env)) []))
    (q : ta σ H fun vs H1 => vs.length ≤ 1000 ∧ H1 a = some (exo a C none) ∧ Q H1) :
    _root_.PySem.wpAt (model X.prog X.w) X.A (.func body X.env) (eval (.Call (.Attribute (.Call (.Name "super" p0) [] [] p1) "__init__" p2) (e :: es) [] p3) X.env) (fun _ s' => ∃ H', Inv X pins σ H' s' ∧ Q H') X.xe s := by
  obtain ⟨nm, q', N', bs, bm, sn, sub, ab, col, dd, k0, k1, k2, k3, k5, hC, hbm⟩ := T.cls
  have hcl : PySem.W.clsIn X.K C = some { name := nm, bases := bs, mro := .ref C :: bm, ns := N', qualname := q', hasDict := true, slotNames := sn, subclasses := sub, abstract := ab, collection := col, hasDel := false } := by unfold PySem.W.clsIn; rw [hC] <;> rfl
  have KX := I.kIn
  obtain ⟨mb, hb1, hb2⟩ := I.mod.blt
  obtain ⟨m, hn, hl⟩ := id I.loc
  obtain ⟨us, rs, lk⟩ := hl ix ar.arg (.ref a) hN hv (.inl hka)
  obtain rfl : us = Value.ref a := rs
  have hm : m ar.arg = some (.ref a) := by
    rcases lk with ⟨_, z⟩ | ⟨z | z, _⟩
    · exact z
    · rw [show X.env.kindOf ar.arg = some .local from hka] at z; cases z
    · rw [show X.env.kindOf ar.arg = some .local from hka] at z; cases z
  obtain ⟨t1, ho⟩ := exo_at I.hok ea
  have hk := I.ok.kind
  refine PySem.ks_wpAt_MethodCall (pl := pure false) ?_ hc
  refine PySem.ks_wpAt_super_base (f := f) (cc := cda) hks hkc (by decide) hfu (KX _ _ lf) hfd hp hco (KX _ _ lcd) hoc hvs hfile htop ?_
  refine PySem.W.ks_loadName_global hk hks (PySem.Calls.loadGlobal_builtin (by rw [I.ok.glob]; exact I.mod.glob.keeps I.bk) mS (by rw [I.ok.blt]; exact hb1.keeps I.bk) ((hb2 "super" (by decide)).trans (by decide +kernel)) ⟨rfl, ?_⟩)
  refine wpAny_loadName_free hk hkc hcell ⟨_, KX _ _ lcc, rfl⟩ ?_
  refine wpAny_loadName_local hk hka hn hm ?_
  obtain ⟨hh, g, d, t, os⟩ := s
  have oC := KX _ _ hC
  refine PySem.ks_wpAny_isType_cls oC rfl ⟨rfl, ?_⟩
  have mem : PySem.W.mroIn X.K C (.ref C) = some true := by
    unfold PySem.W.mroIn
    rw [hcl, Option.bind_some, if_neg (by simp)]
    simp
  refine PySem.ks_wpAny_call_super oC rfl ho rfl (fun c z => by cases z) (PySem.W.looks_mroIn KX mem) (fun h' e1 k => ?_)
  have I1 : Inv X ((hh.objs.size, ({ cls := .type "super", dict := none, data := .fields #[.ref C, .ref a, .ref C], slots := #[] } : Obj)) :: pins) σ H ⟨h', g, d, t, os⟩ :=
    ClX.pin_new (s := ⟨hh, g, d, t, os⟩) (t' := t) I k (Nat.le_refl _) e1 (fun v z => by cases z)
  have KX1 := I1.kIn
  have ho1 := k _ _ ho
  have J1 : PySem.W.InstAt h' a ({ cls := .ref C, dict := none, data := .fields #[.ref t1, .none, .none, .none, .bool false, .none] } : Obj) C none := ⟨ho1, rfl, rfl, trivial⟩
  have hax : a ≠ C := PySem.W.ks_ne KX1 J1 hcl
  have isI : PySem.W.Looks (model X.prog X.w) h' (isInstance (.ref a) (.type "ValueError")) true := J1.type.andThen (PySem.W.looks_mroIn KX1 (by
    unfold PySem.W.mroIn
    rw [hcl, Option.bind_some]
    rw [if_neg (by simp)]
    have z := HandSPX.refsVE_contains "ValueError" (.ref C :: bm) (show HandSPX.refsVE (.ref C :: bm) = true from hbm)
    rw [z]
    decide +kernel))
  have sup' := sup
  unfold PySem.W.ks_superIn at sup'
  rw [hcl, Option.bind_some] at sup'
  refine PySem.W.kxs_getMethod PySem.W.kxs_ValueError e1 (PySem.W.looks_opaque KX1 any) (l₀ := .ref C :: bm) (fun A Q E s k q => wpAny_bind ((PySem.W.looks_clsIn KX1 hcl) A _ E s k (wpAny_pure q))) rfl KX1 sup' isI hax (by decide) ?_
  have I2 : Inv X ((h'.objs.size, PySem.W.kxs_mw "ValueError.__init__" a) :: pins) σ H ⟨h'.push (PySem.W.kxs_mw "ValueError.__init__" a), g, d, t + 1, os⟩ :=
    ClX.pin_new (s := ⟨h', g, d, t, os⟩) (t' := t + 1) (ClX.unpin I1) (fun _ _ z => Heap.get?_push_of_some _ z) (Nat.le_refl _) (Heap.get?_push_size _ rfl) (fun v z => by cases z)
  show wpAny _ _ (callWith p3 (.ref h'.objs.size) [] (backTo p3 (starEach (e :: es) X.env)) []) _ _ _
  rw [he]
  refine PySem.W.kxs_callWith (i := "ValueError.__init__") (x := a) (by show (false || (backTo p3 (starEach es X.env)).any (·.1)) = false; rw [hpl]; rfl) (PySem.Calls.evalArgs_plain ?_)
  have z := ha.run p3 _ _ σ H _ I2 q
  rw [he] at z
  refine thn z fun us s3 ⟨vs, H1, I3, rv, hz, e3, q3⟩ => ⟨ClX.pin_at I3, ?_⟩
  have hlen : us.length ≤ sizeLine := by
    rw [← Paired.length rv, sizeLine_eq]
    omega
  exact run_supinit T I3 e3 hlen fun s' J => ⟨H1, J, q3⟩
end

/-! ## an own exception: def __init__(self, x): super().__init__(e); self.fld = x -/
/-- what the top says of it -/
structure SupC (P : Program) (K : PySem.W.Frag) (mg : Str → Option Value) (C f : Addr) (qual : Str) (params : Arguments) (body : List Stmt) (scope : Scope) (fld : Str) (fd : FuncData) : Prop where
  T : OexC K C
  ex : ∃ (oc : Value) (od : Option Addr) (kV doc pm : Value) (an : Option Addr) (cda cc : Addr) (ct : Value) (osl : Array (Option Value)) (ccl : Value) (cdd : Option Addr) (us : Array Value) (ccs : Array (Option Value)) (cl : Value) (cld : Option Addr) (csl : Array (Option Value)) (file : Str) (tf : Tok),
    fd = PySem.W.fnX "__init__" qual params body scope [("__class__", cc)] .none kV doc pm an (.ref cda) ct ∧ K.lookup f = some ⟨oc, od, .func fd, osl⟩ ∧ PySem.W.codeIn K (.ref cda) qual = true ∧
    K.lookup cda = some ⟨ccl, cdd, .fields us, ccs⟩ ∧ us[2]? = some (.str file tf) ∧ ((P.main.file : Str) == file) = true ∧ K.lookup cc = some ⟨cl, cld, .cell (some (.ref C)), csl⟩
  top : (P.main.scope.names.lookup ("super" : Str)).isSome = false
  mS : mg "super" = none
  any : PySem.W.nsIn K cStatics "thirdparty.any" = some none
  sup : PySem.W.ks_superIn K C C "__init__" = some (some (.builtin "ValueError.__init__"))
  no : PySem.W.findIn K (.ref C) fld = some none
  ini : PySem.W.findIn K (.ref C) "__init__" = some (some (.ref f))
  ty : PySem.W.typeIn K (.ref f) = some (.type "function")
def spSup (C : Addr) (fld : Str) : Sp := fun vs H Q _ => ∃ (a : Addr) (i : Int), vs = [.ref a, .int i] ∧ i.natAbs < 1000000 ∧ H a = some (exo a C none) ∧ ∀ dx, H dx = none → dx ≠ a → Q .non (upd (upd H dx (exd dx [(fld, .int i)])) a (exo a C (some dx)))
section
variable {P : Program} {w : World} {K : PySem.W.Frag} {mg : Str → Option Value} {base : Heap} {C f : Addr} {qual fld x : Str} {params : Arguments} {body : List Stmt} {scope : Scope} {fd : FuncData} {e : Expr} {te : TE} {ar : Arg} {p0 p1 p2 p3 p4 p5 p6 p7 p8 : Pos}
abbrev nfS (qual : Str) (params : Arguments) (body : List Stmt) (scope : Scope) (cc cda : Addr) : NF := ⟨"__init__", qual, params, body, scope, [("__class__", cc)], cda⟩
theorem fn_sup (F : SupC P K mg C f qual params body scope fld fd) (S : NScope ["self", x, "__class__"] ["self", x] ["__class__"] scope)
    (hb : body = [.Expr (.Call (.Attribute (.Call (.Name "super" p0) [] [] p1) "__init__" p2) [e] [] p3) p4, .Assign [.Attribute (.Name "self" p5) fld p6] (.Name x p7) p8])
    (hp : (params.posonlyargs ++ params.args).head? = some ar) (har : ar.arg = "self") (hks : scope.names.lookup ("super" : Str) = some .globalImplicit)
    (hdx : (x == ("__debug__" : Str)) = false) (hcx : (x == ("__classdict__" : Str)) = false)
    (he : ∀ (cc cda : Addr) (A : Around) (outer : List Env) (s : Shared) (H : Hp) (E : XK), PE (ncx C8.CX0 P w K mg base ["self", x, "__class__"] (nfS qual params body scope cc cda) f A outer s H E) e te)
    (hte : ∀ (a : Addr) (i : Int) (H : Hp) (Q : VK), i.natAbs < 1000000 → (∀ z : Str, Q (.str z) H) → te [some (.ref a), some (.int i), some (.ref C)] H Q)
    (hst : ∀ env : Env, starEach [e] env = [(false, eval e env)])
    (hsw : ∀ env : Env, swapsWith (.Call (.Attribute (.Call (.Name "super" p0) [] [] p1) "__init__" p2) [e] [] p3) none p4.line env = pure false) (hsw2 : ∀ env : Env, swapsWith (.Name x p7) (some (.Attribute (.Name "self" p5) fld p6)) p8.line env = pure false) (hint : ∀ (cc cda L : Addr), interactive (envF (nfS qual params body scope cc cda) f L) = false)
    (hc : ∀ env : Env, eval (.Call (.Attribute (.Call (.Name "super" p0) [] [] p1) "__init__" p2) [e] [] p3) env = (do
      let ov ← attributeBase (.Call (.Name "super" p0) [] [] p1) "__init__" env (eval (.Call (.Name "super" p0) [] [] p1) env)
      standAt p2.atName
      let (f, first) ← holding [ov] (getMethod ov "__init__" (pure false))
      callWith p3 f first (backTo p3 (starEach [e] env)) [])) :
    FnOk P w K mg base C8.CX0 2 f fd ["self", x] (spSup C fld) := by
  refine ⟨fun vs H Q E h => by obtain ⟨a, i, rfl, _⟩ := h; rfl, fun A outer s H args us vs Q E hr e0 hbd r hsp => ?_⟩
  obtain ⟨a, i, rfl, hi, ha, q⟩ := hsp
  obtain ⟨oc, od, kV, doc, pm, an, cda, cc, ct, osl, ccl, cdd, fs, ccs, cl, cld, csl, file, tf, rfl, lk, hcd, lcd, hvs, hfile, lcc⟩ := F.ex
  have KX : K.In s.heap := e0.mod.kin.keeps fun b o e => (e0.bs b o e).1
  have lim : s.heap.NoLimit := e0.mod.nolimit.keeps fun b o e => (e0.bs b o e).1
  have cells : CellsAt (nfS qual params body scope cc cda).cl ["__class__"] [some (V.ref C)] s.heap H := by
    refine ⟨rfl, fun y c z => ?_, fun y1 y2 c z1 z2 => ?_, fun j y z => ?_⟩
    · have hy : y = "__class__" ∧ c = cc := by
        have z : List.lookup y [(("__class__" : Str), cc)] = some c := z
        rw [lookA] at z
        split at z
        · rename_i e; exact ⟨e, (Option.some.inj z).symm⟩
        · cases z
      obtain ⟨rfl, rfl⟩ := hy
      exact ⟨(e0.bs _ _ (e0.mod.kin _ _ lcc)).2, _, _, KX _ _ lcc, rfl⟩
    · have one : ∀ {y : Str}, List.lookup y [(("__class__" : Str), cc)] = some c → y = "__class__" := fun {y} z => by
        rw [lookA] at z
        split at z
        · assumption
        · cases z
      rw [one z1, one z2]
    · match j, z with
      | 0, z =>
        cases z
        refine ⟨cc, by show List.lookup _ [(("__class__" : Str), cc)] = _; rw [lookA, if_pos rfl], fun v z => ?_⟩
        cases z
        exact ⟨.ref C, rfl, _, KX _ _ lcc, rfl⟩
      | j + 1, z => simp at z
  refine PySem.ks_codeAny_call_defAt (fd := PySem.W.fnX "__init__" qual params body scope [("__class__", cc)] .none kV doc pm an (.ref cda) ct) (body := body) hr.depth (KX _ _ lk) rfl lim (PySem.W.codeRec_of KX hcd) rfl hbd S.nocell (fun ⟨n, _⟩ hy => S.par n (List.of_mem_zip hy).1) (fun h₁ hns kp => ?_) S.co S.gen S.kind
  have I : L2.Inv (ncx C8.CX0 P w K mg base ["self", x, "__class__"] (nfS qual params body scope cc cda) f A outer s H E) [] (startF ["self", x, "__class__"] [.ref a, .int i] [some (.ref C)]) H { s with heap := h₁, toks := s.toks + ((["self", x] : List Str).zip us).length } :=
    inv_startN S hr.hd e0 rfl r cells hns kp
  have fin : ∀ {fl : Flow} {s' : Shared}, SP (ncx C8.CX0 P w K mg base ["self", x, "__class__"] (nfS qual params body scope cc cda) f A outer s H E) [] { nx := fun _ H' => Q .non H', rt := Q } fl s' → CR C8.CX0 outer P w H s Q E (.ok (.ret (match fl with | .ret v => v | _ => .none))) s' := fun {fl s'} hs => by
    cases fl with
    | ret u =>
      obtain ⟨v, σ', H', J, rv, q⟩ := hs
      exact ⟨v, H', J.os, J.bare, J.base, J.hok, rv, q⟩
    | next =>
      obtain ⟨σ', H', J, q⟩ := hs
      exact ⟨V.non, H', J.os, J.bare, J.base, J.hok, rfl, q⟩
    | brk =>
      obtain ⟨_, _, _, q⟩ := hs
      exact False.elim q
    | cont =>
      obtain ⟨_, _, _, q⟩ := hs
      exact False.elim q
  have nd : (["self", x, "__class__"] : List Str).Nodup := S.nd
  have lself : scope.names.lookup ("self" : Str) = some .local := S.par _ (by simp)
  have lx : scope.names.lookup x = some .local := S.par _ (by simp)
  subst hb
  generalize hX : ncx C8.CX0 P w K mg base ["self", x, "__class__"] (nfS qual params _ scope cc cda) f A outer s H E = X at I fin
  have eN : X.N = (["self", x, "__class__"] : List Str) := by rw [← hX]; rfl
  have eS : X.env.scope = scope := by rw [← hX]; rfl
  have eK : X.K = K := by rw [← hX]; rfl
  have eP : X.prog = P := by rw [← hX]; rfl
  have eG : X.mg = mg := by rw [← hX]; rfl
  have eF : X.env.func = some f := by rw [← hX]; rfl
  have eC : X.env.code = .ref cda := by rw [← hX]; rfl
  have eL : X.env.cells.lookup ("__class__" : Str) = some cc := by rw [← hX]; show List.lookup _ [(("__class__" : Str), cc)] = _; rw [lookA, if_pos rfl]
  have eE : interactive X.env = false := by rw [← hX]; exact hint cc cda _
  have hpe : PE X e te := by rw [← hX]; exact he cc cda A outer s H E
  have main : _root_.PySem.wpAt (model X.prog X.w) X.A (.func [.Expr (.Call (.Attribute (.Call (.Name "super" p0) [] [] p1) "__init__" p2) [e] [] p3) p4, .Assign [.Attribute (.Name "self" p5) fld p6] (.Name x p7) p8] X.env) (execs [.Expr (.Call (.Attribute (.Call (.Name "super" p0) [] [] p1) "__init__" p2) [e] [] p3) p4, .Assign [.Attribute (.Name "self" p5) fld p6] (.Name x p7) p8] X.env)
      (SP X [] { nx := fun _ H' => Q .non H', rt := Q }) X.xe { s with heap := h₁, toks := s.toks + ((["self", x] : List Str).zip us).length } := by
    refine PySem.ks_wpAt_execs_cons (PySem.ks_wpAt_Expr_any ?_ eE (hsw _))
    refine _root_.PySem.wpAt_mono (sup_init (ix := 0) (a := a) (C := C) (f := f) (cc := cc) (cda := cda) (ar := ar) (Q := fun H1 => H1 = H) (ta := tCons te tNil) I (by rw [eK]; exact F.T) rfl (by rw [eN, har]; rfl) (by rw [eS, har]; exact lself) eL (by rw [eK]; exact lcc) (by rw [eS]; exact hks) (by rw [eS]; exact S.frk _ (by simp))
      eF (by rw [eK]; exact lk) rfl hp eC (by rw [eK]; exact lcd) rfl hvs (by rw [eP]; exact hfile) (by rw [eP]; exact F.top) (by rw [eG]; exact F.mS) (by rw [eK]; exact F.any) (by rw [eK]; exact F.sup) ha (pa_cons hpe pa_nil (hst _)) (hst _) (by rfl) (hc _) ?_) (fun _ s' ⟨H', J, e'⟩ => ?_) fun _ _ z => z
    · exact hte a i H _ hi fun z => ⟨by simp, ha, rfl⟩
    · subst e'
      have ps : PSs X [.Assign [.Attribute (.Name "self" p5) fld p6] (.Name x p7) p8] (tOst X.K fld (tVar 0) (tVar 1)) := pss_one (ps_ost (pe_var (by rw [eN]; rfl) (.inl (by rw [eS]; exact lself))) (pe_var (by rw [eN]; rfl) (.inl (by rw [eS]; exact lx)) hdx hcx) (hsw2 _))
      exact _root_.PySem.wpAt_of_wpAny (ps.run [] s' _ H' _ J ⟨_, rfl, _, rfl, a, C, rfl, by rw [eK]; exact F.T, by rw [eK]; exact F.no, .inl ⟨ha, fun dx n1 n2 => q dx n1 n2⟩⟩)
  subst hX
  exact _root_.PySem.wpAt_mono main (fun _ _ z => fin z) fun _ _ z => z
end
/-! ## raise C(e) -/
def NcEx (P : Program) (w : World) (K : PySem.W.Frag) (mg : Str → Option Value) (base : Heap) (C : Addr) (fld : Str) : Prop :=
  ∃ (f : Addr) (fd : FuncData) (ps : List Str), OexC K C ∧ PySem.W.findIn K (.ref C) "__init__" = some (some (.ref f)) ∧ PySem.W.typeIn K (.ref f) = some (.type "function") ∧ FnOk P w K mg base C8.CX0 2 f fd ps (spSup C fld) ∧ Binds K fd ps []
theorem pa_weak {X : Cx} {es : List Expr} {ta : TA} (h : PA X es ta) : PA X es (fun σ H R => ∃ R', ta σ H R' ∧ ∀ vs H1, R' vs H1 → R vs H1) :=
  ⟨fun pos pins s σ H Q I ⟨R', q, k⟩ => thn (h.run pos pins s σ H R' I q) fun us s1 ⟨vs, H1, I1, rv, z⟩ => ⟨vs, H1, I1, rv, k _ _ z⟩⟩
/-- the reading: the exception is let go, its dict stands -/
def tMkX (C : Addr) (fld : Str) (ta : TA) : L2.St → Hp → XK → Prop := fun σ H Q => ta σ H fun vs H1 => ∃ i : Int, vs = [.int i] ∧ i.natAbs < 1000000 ∧ ∀ (d : Addr) (H' : Hp), H1 d = none → Kp [] H1 H' → H' d = some (.xd [(fld, .int i)]) → Q (.ref C) (some d) H'
theorem pmk_ex {X : Cx} {x : Str} {C : Addr} {fld : Str} {e : Expr} {es : List Expr} {ta : TA} {p pos : Pos} (N : NcEx X.prog X.w X.K X.mg X.base C fld) (hr : Room 3 X.A) (hm : X.mg x = some (.ref C)) (ha : PA X (e :: es) ta) (hg : Gl X x := by rfl)
    (hdb : (x == ("__debug__" : Str)) = false := by decide) (he : starEach (e :: es) X.env = (false, eval e X.env) :: starEach es X.env := by rfl) (hpl : (backTo pos (starEach es X.env)).any (·.1) = false := by rfl) :
    PMk X (.Call (.Name x p) (e :: es) [] pos) (tMkX C fld ta) := by
  obtain ⟨f, fd, ps, T, ini, ty, ok, bd⟩ := N
  intro pins s σ H Q I h
  refine pmk_oex (CX := C8.CX0) (dvs := []) (ds := []) T ini ty ok hr bd .nil (fun _ _ _ _ _ _ _ z => z.elim) hg hm (pa_weak ha) hdb he hpl pins s σ H Q I ⟨_, h, fun vs H1 z => ?_⟩
  obtain ⟨i, rfl, hi, q⟩ := z
  refine ⟨by simp, fun a hn => ⟨a, i, rfl, hi, upd_same, fun dx n1 n2 => ?_⟩⟩
  have n3 : H1 dx = none := by rw [upd_ne n2] at n1; exact n1
  refine ⟨rfl, dx, _, upd_same, by rw [upd_ne n2, upd_same], n3, q dx _ n3 (fun b u _ e => ?_) upd_same⟩
  have ba : b ≠ a := ne_of_none e hn
  have bd : b ≠ dx := ne_of_none e n3
  rw [upd_ne bd, del_ne ba, upd_ne ba, upd_ne bd, upd_ne ba]
  exact e
/-! ## several clauses, some with a name -/
def wAny (K : PySem.W.Frag) (Wout : WX) (D : Ends) : List (Value × Option Nat × (Addr → Value → Option Addr → TS)) → WX
  | [] => Wout
  | (c, o, ts) :: r => fun cls d σ H => ∃ b, PySem.W.exmOne K cls c = some b ∧
      (b = true → ∀ a, H a = none → match o with
        | none => ts a cls d D σ H
        | some i => ts a cls d { nx := fun σ' H' => D.nx (σ'.set i none) H', rt := D.rt, bk := fun σ' H' => D.bk (σ'.set i none) H', ct := fun σ' H' => D.ct (σ'.set i none) H' } (σ.set i (some (.ref a))) H) ∧
      (b = false → wAny K Wout D r cls d σ H)
inductive HdsA (X : Cx) : List ExceptHandler → List (Value × Option Nat × (Addr → Value → Option Addr → TS)) → Prop
  | nil : HdsA X [] []
  | plain {x : Str} {c : Value} {ts : Addr → Value → Option Addr → TS} {b₀ : Stmt} {suite : List Stmt} {np pos' : Pos} {hds : List ExceptHandler} {l : List (Value × Option Nat × (Addr → Value → Option Addr → TS))} (hc : Names X x c)
      (hsu : ∀ (a : Addr) (oe : Obj) (cls : Value) (d : Option Addr) (pn : List (Addr × Obj)), Zc cls d oe → (∃ vs, oe.data = .fields vs) → PSs (X.suite a ((a, oe) :: pn)) (b₀ :: suite) (ts a cls d)) (r : HdsA X hds l) :
      HdsA X (.ExceptHandler (some (.Name x np)) none (b₀ :: suite) pos' :: hds) ((c, none, ts) :: l)
  | named {x n : Str} {i : Nat} {c : Value} {ts : Addr → Value → Option Addr → TS} {b₀ : Stmt} {suite : List Stmt} {np pos' : Pos} {hds : List ExceptHandler} {l : List (Value × Option Nat × (Addr → Value → Option Addr → TS))} (hN : X.N.Nodup) (hi : X.N[i]? = some n) (hln : X.env.kindOf n = some .local) (hc : Names X x c)
      (hsu : ∀ (a : Addr) (oe : Obj) (cls : Value) (d : Option Addr) (pn : List (Addr × Obj)), Zc cls d oe → (∃ vs, oe.data = .fields vs) → PSs (X.suite a ((a, oe) :: pn)) (b₀ :: suite) (ts a cls d)) (r : HdsA X hds l) :
      HdsA X (.ExceptHandler (some (.Name x np)) (some n) (b₀ :: suite) pos' :: hds) ((c, some i, ts) :: l)
section
variable {X : Cx} {body : List Stmt} {h₀ : ExceptHandler} {hds : List ExceptHandler} {l : List (Value × Option Nat × (Addr → Value → Option Addr → TS))} {pos : Pos} {tb : WX → TS} {Wout : WX}
theorem ps_try_any (hs : X.stack = X.env :: X.outer) (hf : X.env.frame = some X.env.locals) (tk : Takes X Wout)
    (hb : ∀ (W : WX) (pn : List (Addr × Obj)) (xe : Value → Shared → Prop), Takes (X.tr pn xe) W → PassesOwn (model X.prog X.w) X.A X.env xe → PSs (X.tr pn xe) body (tb W))
    (hh : HdsA X (h₀ :: hds) l) : PS X (.Try body (h₀ :: hds) [] [] pos) (fun D σ H => tb (wAny X.K Wout D l) D σ H) := by
  refine ⟨fun pins s σ H D I h => ?_⟩
  have ok := I.ok
  have frOk : X.A.frames = some (X.env :: X.outer) := by rw [ok.frames, hs]
  refine wpAny_Try_except (wpAny_mono ((hb (wAny X.K Wout D l) (X.pn ++ pins) (fun exn t1 => wpAny (model X.prog X.w) X.A (noteFrame exn X.env) (fun _ t2 => wpAny (model X.prog X.w) X.A (setFlight exn none) (fun _ t3 =>
    wpAny (model X.prog X.w) X.A (handleBy exn X.env (h₀ :: hds)) (SP X pins D) X.xe t3) X.xe t2) X.xe t1) (fun u s' caught => ?_) PassesOwn.looking).run [] s σ H D (I.toTry _) h) (fun fl s1 through => ?_) (fun _ _ z => z))
  · obtain ⟨a, B, sI, pins', σ', H', cls, d, rfl, Jt, nb, up, sky, na, os, ag, w⟩ := caught
    have J : Inv X pins σ' H' sI := Jt.ofTry ok
    rw [hs] at sky
    show wpAny (model X.prog X.w) X.A (noteFrame (.ref a) X.env) _ _ _
    refine Sky.land Zc.steady frOk hf sky fun h3 fl3 up3 => ?_
    have J3 : Inv X pins σ' H' { s' with heap := h3 } := J.landed nb fl3.1 (up.trans up3) os ag
    obtain ⟨oe3, vs3, he3, hz3, hd3⟩ := fl3.there
    have notFr : a ∉ frs (X.env :: X.outer) := fun hm => by
      obtain ⟨_, o2, e2, hnf⟩ := fl3.2.2.1.mem hm
      rw [he3] at e2; cases e2
      exact hnf _ hd3
    have nL : a ≠ X.env.locals := fun z => notFr (List.mem_filterMap.mpr ⟨X.env, List.mem_cons_self, by rw [hf, z]⟩)
    have nF : a ∉ X.fs := fun hm => by
      obtain ⟨e, he, q⟩ := List.mem_filterMap.mp hm
      exact notFr (List.mem_filterMap.mpr ⟨e, List.mem_cons_of_mem _ he, q⟩)
    have S3 := J3.suite he3 hd3 na nL nF
    have LT : PySem.W.Looks (model X.prog X.w) h3 (typeOf (.ref a)) cls := fun A Q E s k q => wpAny_typeOf_ref (k _ _ he3) (by rw [hz3.1]; exact q)
    have test : ∀ {x : Str} {c : Value} {np : Pos} {Q : Value → Shared → Prop} {E : Value → Shared → Prop}, Names X x c → Q c { s' with heap := h3 } → wpAny (model X.prog X.w) (X.A.mark (some (.ref a))) (eval (.Name x np) X.env) Q E { s' with heap := h3 } := fun {x c np Q E} hc q => by
      obtain ⟨hg, hdbg, hm | ⟨hm, hv, hnn⟩⟩ := hc
      · exact ld_glob (X := X.suite a ((a, oe3) :: (X.pn ++ pins))) S3 hg hm q hdbg
      · exact ld_blt (X := X.suite a ((a, oe3) :: (X.pn ++ pins))) S3 hg hm hv q hnn hdbg
    have go : ∀ {hds' : List ExceptHandler} {l' : List (Value × Option Nat × (Addr → Value → Option Addr → TS))}, HdsA X hds' l' → wAny X.K Wout D l' cls d σ' H' →
        wpAny (model X.prog X.w) X.A (handleBy (.ref a) X.env hds') (SP X pins D) X.xe { s' with heap := h3 } := by
      intro hds' l' hk
      induction hk with
      | nil =>
        intro w
        refine wpAny_handleBy_nil ?_
        obtain ⟨k1, k2, k3, oe, vs, T, oT, ts', he, hz, hd, h1, hr⟩ := id fl3
        unfold PySem.passOn
        refine wpAny_bind (wpAny_field he hd h1 ?_)
        rw [if_neg (show ¬ ((Value.ref T == Value.none) = true) from by simp)]
        have away : wpAny (model X.prog X.w) X.A (setFlight (.ref a) X.env.frame) (fun _ t4 => wpAny (model X.prog X.w) X.A (throw (.ref a) : Sem Flow) (SP X pins D) X.xe t4) X.xe { s' with heap := h3 } := by
          rw [hf]
          exact HandSPX.setFlight_upZ fl3 fun h4 hh4 up4 => wpAny_throw (tk _ _ ⟨a, B, sI, pins, σ', H', cls, d, rfl, J, nb, (up.trans up3).trans up4, .inr (.inr (by rw [hs]; exact hh4)), na, os, ag, w⟩)
        first
          | exact wpAny_bind (wpAny_pure (wpAny_bind away))
          | exact wpAny_bind away
      | @plain x c ts b₀ suite np pos' hds2 l2 hc hsu r ih =>
        intro w
        obtain ⟨b, hb1, hyes, hno⟩ := w
        refine wpAny_handleBy_cons (codeAny_handlers_test (test hc ((PySem.W.exm_one (M := model X.prog X.w) J3.kIn LT hb1).here ?_))) (by intro q; cases q)
        cases b with
        | true =>
          refine codeAny_handlers_suite (HandSPX.lands_againZ fl3 fun h4 fl4 up4 => ?_)
          have J4 : Inv X pins σ' H' { s' with heap := h4 } := J.landed nb fl4.1 ((up.trans up3).trans up4) os ag
          obtain ⟨oe4, vs4, he4, hz4, hd4⟩ := fl4.there
          have S4 := J4.suite he4 hd4 na nL nF
          refine wpAny_mono ((hsu a oe4 cls d (X.pn ++ pins) hz4 ⟨_, hd4⟩).run [] _ _ H' _ S4 (hyes rfl a na)) (fun fl s6 over => ?_) (fun _ _ z => False.elim z)
          cases fl with
          | ret u =>
            obtain ⟨v6, σ6, H6, S6, r6, q6⟩ := over
            exact ⟨_, _, _, S6.unsuite ok, r6, q6⟩
          | next => obtain ⟨σ6, H6, S6, q6⟩ := over; exact ⟨_, _, S6.unsuite ok, q6⟩
          | brk => obtain ⟨σ6, H6, S6, q6⟩ := over; exact ⟨_, _, S6.unsuite ok, q6⟩
          | cont => obtain ⟨σ6, H6, S6, q6⟩ := over; exact ⟨_, _, S6.unsuite ok, q6⟩
        | false =>
          show wpAny _ X.A (handleBy (.ref a) X.env hds2) _ _ _
          exact ih (hno rfl)
      | @named x n i c ts b₀ suite np pos' hds2 l2 hN hi hln hc hsu r ih =>
        intro w
        obtain ⟨b, hb1, hyes, hno⟩ := w
        refine wpAny_handleBy_cons (codeAny_handlers_test (test hc ((PySem.W.exm_one (M := model X.prog X.w) J3.kIn LT hb1).here ?_))) (by intro q; cases q)
        cases b with
        | true =>
          refine codeAny_handlers_suite_as (HandSPX.lands_againZ fl3 fun h4 fl4 up4 => ?_)
          have J4 : Inv X pins σ' H' { s' with heap := h4 } := J.landed nb fl4.1 ((up.trans up3).trans up4) os ag
          obtain ⟨oe4, vs4, he4, hz4, hd4⟩ := fl4.there
          have S4 := J4.suite he4 hd4 na nL nF
          refine store_ok (X := X.suite a ((a, oe4) :: (X.pn ++ pins))) (v := .ref a) S4 hN hi (.inl hln) rfl (fun s5 S5 => ?_) (.inr hln)
          refine wpAny_mono ((hsu a oe4 cls d (X.pn ++ pins) hz4 ⟨_, hd4⟩).run [] s5 _ H' _ S5 (hyes rfl a na)) (fun fl s6 over => ?_) (fun _ _ z => False.elim z)
          have gone : ∀ {σ6 : L2.St} {H6 : Hp} {R : Shared → Prop}, Inv (X.suite a ((a, oe4) :: (X.pn ++ pins))) [] σ6 H6 s6 → (∀ s7, Inv X pins (σ6.set i none) H6 s7 → R s7) →
              wpAny (model X.prog X.w) X.A (do bindName X.env n .none; unbindBehindTheSuite X.env n pos') (fun _ s7 => R s7) X.xe s6 := fun {σ6 H6 R} S6 hq => gone_ok (S6.unsuite ok) hN hi hln hq
          cases fl with
          | ret u =>
            obtain ⟨v6, σ6, H6, S6, r6, q6⟩ := over
            exact gone S6 fun s7 J7 => ⟨_, _, _, J7, r6, q6⟩
          | next => obtain ⟨σ6, H6, S6, q6⟩ := over; exact gone S6 fun s7 J7 => ⟨_, _, J7, q6⟩
          | brk => obtain ⟨σ6, H6, S6, q6⟩ := over; exact gone S6 fun s7 J7 => ⟨_, _, J7, q6⟩
          | cont => obtain ⟨σ6, H6, S6, q6⟩ := over; exact gone S6 fun s7 J7 => ⟨_, _, J7, q6⟩
        | false =>
          show wpAny _ X.A (handleBy (.ref a) X.env hds2) _ _ _
          exact ih (hno rfl)
    exact go hh w
  · cases fl with
    | ret u =>
      obtain ⟨v, σ', H', J', r, q⟩ := through
      exact ⟨v, σ', H', J'.ofTry ok, r, q⟩
    | next =>
      obtain ⟨σ', H', J', q⟩ := through
      exact wpAny_execs_nil ⟨σ', H', J'.ofTry ok, q⟩
    | brk => obtain ⟨σ', H', J', q⟩ := through; exact ⟨σ', H', J'.ofTry ok, q⟩
    | cont => obtain ⟨σ', H', J', q⟩ := through; exact ⟨σ', H', J'.ofTry ok, q⟩
end
end U

set_option Elab.async false
set_option linter.all false
set_option autoImplicit false
set_option maxRecDepth 100000
set_option maxHeartbeats 4000000
/-! ## texts cut at a sign -/
namespace Px
open PySem SX
def cut (c : Nat) : List Nat → List (List Nat)
  | [] => [[]]
  | x :: r => if x = c then [] :: cut c r else match cut c r with
    | p :: ps => (x :: p) :: ps
    | [] => [[x]]
theorem cut_ne (c : Nat) : ∀ a, cut c a ≠ []
  | [] => by simp [cut]
  | x :: r => by
    unfold cut
    split
    · simp
    · split <;> simp
theorem pre_one {c x : Nat} {r : List Nat} : TL.pre [c] (x :: r) = decide (x = c) := by
  unfold TL.pre
  by_cases h : x = c
  · subst h; simp
  · simp [h]
theorem spl_cut (c : Nat) : ∀ (a acc p : List Nat) (ps : List (List Nat)), cut c a = p :: ps → TL.spl [c] 0 acc a = (acc ++ p) :: ps
  | [], acc, p, ps, h => by
    cases h
    rw [TL.spl_nil]
    simp
  | x :: r, acc, p, ps, h => by
    unfold cut at h
    by_cases e : x = c
    · rw [if_pos e] at h
      cases h
      rw [TL.spl_hit (by rw [pre_one]; exact decide_eq_true e)]
      show acc :: TL.spl [c] 0 [] r = _
      cases h2 : cut c r with
      | nil => exact absurd h2 (cut_ne c r)
      | cons q qs => rw [spl_cut c r [] q qs h2]; simp
    · rw [if_neg e] at h
      rw [TL.spl_miss (by rw [pre_one]; exact decide_eq_false e)]
      cases h2 : cut c r with
      | nil => exact absurd h2 (cut_ne c r)
      | cons q qs =>
        rw [h2] at h
        cases h
        rw [spl_cut c r (acc ++ [x]) q _ h2]
        simp
theorem split_cut (a : List Nat) {c : Nat} (hc : c < 256) : Txt.split (S a) (S [c]) = (cut c a).map S := by
  rw [split_S (by simp) (by simp [hc])]
  cases h : cut c a with
  | nil => exact absurd h (cut_ne c a)
  | cons p ps => rw [spl_cut c a [] p ps h]; rfl
theorem join_cut (c : Nat) : ∀ a, TL.joinL [c] (cut c a) = a
  | [] => rfl
  | x :: r => by
    have ih := join_cut c r
    unfold cut
    split
    · rename_i e
      cases h : cut c r with
      | nil => exact absurd h (cut_ne c r)
      | cons p ps =>
        rw [h] at ih
        show [] ++ ([c] ++ TL.joinL [c] (p :: ps)) = _
        rw [ih, e]; rfl
    · cases h : cut c r with
      | nil => exact absurd h (cut_ne c r)
      | cons p ps =>
        rw [h] at ih
        cases ps with
        | nil => show x :: p = _; rw [show p = r from ih]
        | cons q qs =>
          show (x :: p) ++ ([c] ++ TL.joinL [c] (q :: qs)) = _
          have ih : p ++ ([c] ++ TL.joinL [c] (q :: qs)) = r := ih
          rw [← ih]; rfl
theorem cut_free (c : Nat) : ∀ a, ∀ p ∈ cut c a, c ∉ p
  | [], p, h => by simp [cut] at h; rw [h]; simp
  | x :: r, p, h => by
    have ih := cut_free c r
    unfold cut at h
    split at h
    · rcases List.mem_cons.mp h with e | e
      · rw [e]; simp
      · exact ih p e
    · rename_i ne
      cases h2 : cut c r with
      | nil => exact absurd h2 (cut_ne c r)
      | cons q qs =>
        rw [h2] at h ih
        rcases List.mem_cons.mp h with e | e
        · rw [e]
          have := ih q List.mem_cons_self
          intro z
          rcases List.mem_cons.mp z with z | z
          · exact ne z.symm
          · exact this z
        · exact ih p (List.mem_cons_of_mem _ e)
theorem cut_one {c : Nat} : ∀ {p : List Nat}, c ∉ p → cut c p = [p]
  | [], _ => rfl
  | x :: r, h => by
    have ne : x ≠ c := fun z => h (by rw [z]; simp)
    unfold cut
    rw [if_neg ne, cut_one fun z => h (List.mem_cons_of_mem _ z)]
theorem cut_two {c : Nat} (J : List Nat) : ∀ {p : List Nat}, c ∉ p → cut c (p ++ c :: J) = p :: cut c J
  | [], _ => by show cut c (c :: J) = _; conv => lhs; unfold cut
                rw [if_pos rfl]
  | x :: r, h => by
    have ne : x ≠ c := fun z => h (by rw [z]; simp)
    show cut c (x :: (r ++ c :: J)) = _
    conv => lhs; unfold cut
    rw [if_neg ne, cut_two J fun z => h (List.mem_cons_of_mem _ z)]
theorem cut_join {c : Nat} : ∀ {ps : List (List Nat)}, ps ≠ [] → (∀ p ∈ ps, c ∉ p) → cut c (TL.joinL [c] ps) = ps
  | [], h, _ => absurd rfl h
  | [p], _, hp => cut_one (hp p List.mem_cons_self)
  | p :: q :: r, _, hp => by
    have ih := cut_join (ps := q :: r) (by simp) fun x hx => hp x (List.mem_cons_of_mem _ hx)
    show cut c (p ++ c :: TL.joinL [c] (q :: r)) = _
    rw [cut_two _ (hp p List.mem_cons_self), ih]
theorem cut_sum (c : Nat) : ∀ a, ((cut c a).map List.length).sum + (cut c a).length = a.length + 1
  | [] => rfl
  | x :: r => by
    have ih := cut_sum c r
    unfold cut
    split
    · simp only [List.map_cons, List.sum_cons, List.length_cons, List.length_nil]; omega
    · cases h : cut c r with
      | nil => exact absurd h (cut_ne c r)
      | cons p ps =>
        rw [h] at ih
        simp only [List.map_cons, List.sum_cons, List.length_cons] at ih ⊢
        omega
theorem cut_len (c : Nat) (a : List Nat) : (cut c a).length ≤ a.length + 1 := by have := cut_sum c a; omega
theorem le_sum : ∀ {l : List Nat} {x : Nat}, x ∈ l → x ≤ l.sum
  | y :: l, x, h => by
    rw [List.sum_cons]
    rcases List.mem_cons.mp h with e | e
    · omega
    · have := le_sum e; omega
theorem cut_mem {c : Nat} {a p : List Nat} (h : p ∈ cut c a) : p.length ≤ a.length := by
  have h1 := le_sum (List.mem_map_of_mem (f := List.length) h)
  have h2 := cut_sum c a
  have h3 := List.length_pos_iff.mpr (cut_ne c a)
  omega
theorem join_len (c : Nat) : ∀ ps : List (List Nat), (TL.joinL [c] ps).length ≤ (ps.map List.length).sum + ps.length
  | [] => by simp [TL.joinL]
  | [p] => by simp [TL.joinL]
  | p :: q :: r => by
    have ih := join_len c (q :: r)
    show (p ++ ([c] ++ TL.joinL [c] (q :: r))).length ≤ _
    simp only [List.map_cons, List.sum_cons, List.length_cons, List.length_append, List.length_nil] at ih ⊢
    omega
theorem lstrip_S (a : List Nat) (c : Nat) : Txt.lstripChars (S a) (S [c]) = S (a.dropWhile fun x => decide (x = c)) := by
  have eg : (fun x => (S [c]).cps.contains x) = fun x => decide (x = c) := by
    funext x
    simp [S]
  have e0 : ∀ g : Nat → Bool, stripLo g true (S a) = (a.takeWhile g).length := fun g => by unfold stripLo; rw [if_pos rfl]
  have e1 : ∀ (g : Nat → Bool) (n : Nat), stripHi g false (S a) n = a.length := fun g n => by unfold stripHi; rw [if_neg (by simp), S_len]
  unfold Txt.lstripChars Txt.stripBy
  rw [show (S [c]).cps.contains = fun x => decide (x = c) from eg]
  have td : ∀ g : Nat → Bool, a.drop (a.takeWhile g).length = a.dropWhile g := fun g => by
    have h := List.takeWhile_append_dropWhile (p := g) (l := a)
    have h2 : (a.takeWhile g ++ a.dropWhile g).drop (a.takeWhile g).length = a.dropWhile g := List.drop_left
    rw [h] at h2
    exact h2
  split
  · rename_i h
    unfold stripSame at h
    rw [Bool.and_eq_true, e0, e1, beq_iff_eq] at h
    rw [← td, h.1, List.drop_zero]
  · unfold stripped
    rw [e0, e1]
    apply TL.ext_tl
    rw [TL.tl_strSub]
    show ((a.drop _).take _) = a.dropWhile _
    rw [td, List.take_of_length_le]
    rw [← td, List.length_drop]
    exact Nat.le_refl _
end Px
namespace U
open PySem PySem.Spec PyProof.Rows L2
/-! ## enumerate(list, start=k) -/
def IteC (K : PySem.W.Frag) (a : Addr) (k : Int) : It :=
  ⟨fun i H => ∃ (xs : List V) (x : V), SqL K H a xs ∧ xs[i]? = some x, fun i H v H' => ∃ T x, v = .ref T ∧ H T = none ∧ H' = upd H T (.tup [.int (k + (i : Nat)), x]) ∧ ∀ xs, SqL K H a xs → xs[i]? = some x, fun i H => ∃ xs : List V, SqL K H a xs ∧ xs.length ≤ i⟩
theorem apart_it {h : Heap} {it a : Addr} {i : Nat} {items : Array Value} (h1 : h.IsListIter it a i) (h2 : h.IsList a items) : a ≠ it := by
  rintro rfl
  obtain ⟨o, e1, c1, _⟩ := h1
  obtain ⟨o2, e2, c2, _⟩ := h2
  rw [e1] at e2
  cases e2
  rw [c1] at c2
  exact absurd c2 (by decide)
theorem turn_enumC {P : Program} {w : World} {K : PySem.W.Frag} {elts : List Expr} {kk : Nat} {tpos : Pos} (a e it : Addr) (k0 : Int) :
    Turn P w K (.Tuple elts kk tpos) (IteC K a k0) [e, it] e (fun i h => (∃ old, IsEnum h e it (k0 + (i : Nat)) old) ∧ h.IsListIter it a i ∧ e ≠ it) where
  mem := List.mem_cons_self
  obj := fun i h ⟨⟨old, he⟩, ⟨o, ho, _, hd⟩, _⟩ b hb => by
    have z : b = e ∨ b = it := by simpa using hb
    rcases z with z | z
    · rw [z]; exact ⟨_, he, fun v q => by cases q⟩
    · rw [z]; exact ⟨o, ho, fun v q => by rw [hd] at q; cases q⟩
  keep := fun i h h' ⟨⟨old, he⟩, hi, hne⟩ k => ⟨⟨old, k e (by simp) _ he⟩, hi.at fun o q => k it (by simp) o q, hne⟩
  item := by
    intro X hP hw hK hc i pins s σ H E I hf st hg
    subst hP hw hK
    obtain ⟨⟨old, he⟩, hit, hne⟩ := st
    obtain ⟨xs, x, hq, hx⟩ := hg
    obtain ⟨its, rv, p, hz⟩ := I.list hq
    obtain ⟨u, hu, ru⟩ := rv.get hx
    have hel := Heap.lt_size he
    have hil : it < s.heap.objs.size := by obtain ⟨_, q, _⟩ := hit; exact Heap.lt_size q
    have nea : a ≠ it := apart_it hit p.isList
    have hlt : i < its.toArray.size := by
      have := (List.getElem?_eq_some_iff.mp hu).1
      simpa using this
    have nef : e ∉ [it, a] := by
      intro z
      have z : e = it ∨ e = a := by simpa using z
      rcases z with z | z
      · exact hne z
      · obtain ⟨o2, e2, c2, _⟩ := p.isList
        rw [← z, he] at e2
        cases e2
        exact absurd (show Value.type "enumerate" = Value.type "list" from c2) (by decide)
    refine wpAny_pyNext_enum_itemC (Draws.list (A := X.A.in1) (I.ok.hd hc) it a nea its.toArray) he ⟨hit, p.isList⟩ hlt hne nef fun y h' tk hy ho st' hT hsz hk => ?_
    obtain rfl : y = u := by
      have hy : its.toArray[i]? = some y := hy
      rw [List.getElem?_toArray, hu] at hy
      exact (Option.some.inj hy).symm
    refine ⟨_, rfl, wpAny_letOwnedTupleGo_enum (s := { s with heap := h', toks := tk + 1 }) ho fun h2 he' sb => ?_⟩
    have hT2 : h2.get? s.heap.objs.size = some { cls := .type "tuple", data := .seq #[.int (k0 + (i : Nat)) tk, y] } := (sb.2 _ (Nat.ne_of_gt hel)).trans hT
    have new : ObjOk X.prog X.w (upd H s.heap.objs.size (.tup [.int (k0 + (i : Nat)), x])) h2 s.heap.objs.size (.tup [.int (k0 + (i : Nat)), x]) :=
      ⟨by show 2 ≤ sizeLine; decide, [.int (k0 + (i : Nat)) tk, y], .cons ⟨_, rfl⟩ (.cons ru .nil), ⟨_, hT2, rfl, _, rfl⟩⟩
    have I1 : L2.Inv X pins σ (upd H s.heap.objs.size (.tup [.int (k0 + (i : Nat)), x])) { s with heap := h2, toks := tk + 1 } :=
      I.turnedNew (ch := [e, it]) (fun b ob hb q => (sb.2 b (fun z => hb (by simp [z]))).trans (hk b ob (fun z => hb (by simp [z])) (fun z => hb (by simp [z])) q)) hf (Nat.le_refl _) new
    refine ⟨.ref s.heap.objs.size, _, I1, rfl, ⟨_, x, rfl, I.hok.fresh (Nat.le_refl _), rfl, fun ys hy => by rw [I.list_inj hy hq]; exact hx⟩, ⟨⟨y, ?_⟩, st'.1.at fun o q => (sb.2 it (Ne.symm hne)).trans q, hne⟩, fun b hb => ?_⟩
    · have e1 : k0 + ((i + 1 : Nat) : Int) = k0 + (i : Nat) + 1 := by omega
      rw [e1]; exact he'
    · have hb' : b < s.heap.objs.size := by
        have z : b = e ∨ b = it := by simpa using hb
        rcases z with z | z
        · rw [z]; exact hel
        · rw [z]; exact hil
      rw [upd_ne (Nat.ne_of_lt hb')]
      exact (hf b hb).1
  done := by
    intro X hP hw hK hc i pins s σ H E I hf st hg
    subst hP hw hK
    obtain ⟨⟨old, he⟩, hit, hne⟩ := st
    obtain ⟨xs, hq, hx⟩ := hg
    obtain ⟨its, rv, p, hz⟩ := I.list hq
    obtain ⟨f0, f1, f2, f3, f4, f5⟩ := hf it (by simp)
    have hl := rv.length
    have hT : s.TypeIs (.ref e) "enumerate" := ⟨_, he, rfl⟩
    unfold pyNext
    refine wpAny_bind (wpAny_attempt (wpAny_callSpecial?_slot (name := Str.ofString "__next__") hT F.slot_enumerate_next (wpAny_call_entry F.slot_enumerate_next hT F.entry_enumerate_next ?_ (F.args_enumerate_next_1 _))))
    show wpAny _ _ (field (.ref e) 2 >>= _) _ _ _
    refine wpAny_bind (wpAny_field he rfl (x := .ref it) rfl ?_)
    refine wpAny_bind (wpAny_nextOf_list_end (I.ok.hd hc) hit p.isList (by simp; omega) fun h' x he' hx' => ?_)
    obtain ⟨o, ho, hcl⟩ := hx'
    refine wpAny_bind (wpAny_isInstance (T := "StopIteration") (b := true) ⟨o, ho, hcl⟩ isSubtype_stop (wpAny_pure ?_))
    exact ⟨rfl, I.turned (t' := s.toks) (fun b o hb q => he' b o hb q) f0 f1 f3 f4 f5⟩
  self := fun A i s Q E ⟨⟨_, he⟩, _⟩ h => wpAny_pyIter_enum he h
def iEnumC (K : PySem.W.Frag) (k : Int) (ta : TA) : TI := fun σ H R => ta σ H fun vs H1 => ∃ a xs, vs = [.ref a] ∧ SqL K H1 a xs ∧ R (IteC K a k) H1
theorem callWith_tyKw {M : Model} {A : Around} {E : Value → Shared → Prop} {s : Shared} {pos : Pos} {T : String} {args : List (Bool × Sem Value)} {kws : List (Option Str × Sem Value)} {Q : Value → Shared → Prop}
    (hplain : args.any (·.1) = false) (hkw : kws.any (·.1.isNone) = false) (h : wpAny M A (evalArgs (.type T) true args kws) (fun a s₁ => wpAny M A (call (.type T) a.pos a.kw) Q E s₁) E s) : wpAny M A (callWith pos (.type T) [] args kws) Q E s := by
  unfold callWith
  refine wpAny_bind (wpAny_holding (wpAny_mono h (fun a s₁ h₁ => wpAny_bind (wpAny_standAt ?_)) fun _ _ z => z))
  simp only [hplain, hkw, Bool.or_false]
  exact wpAny_bind (wpAny_pure (wpAny_bind (wpAny_mono h₁ (fun r s₂ hr => wpAny_bind (wpAny_holding (wpAny_point (wpAny_pure hr)))) fun _ _ z => z)))
theorem pi_enumC {X : Cx} {e c : Expr} {ta : TA} {p pos tpos kpos : Pos} {elts : List Expr} {kk : Nat} {k : Int} (hk0 : -(2 ^ 63) ≤ k) (hk1 : k < 2 ^ 63) (hg : Gl X "enumerate") (hm : X.mg "enumerate" = none) (ha : PA X [e] ta) (hc : PE X c (tC (.int k)))
    (hs : starEach [e] X.env = [(false, eval e X.env)] := by rfl) :
    PI X (.Tuple elts kk tpos) (.Call (.Name "enumerate" p) [e] [⟨some "start", c, kpos⟩] pos) (iEnumC X.K k ta) := by
  refine ⟨fun pins s σ H R I h => ?_⟩
  refine wpAny_Call_Name_kw (ld_blt I hg hm boot_enumerate ?_)
  refine callWith_tyKw (by rw [hs]; rfl) rfl ?_
  have z := ha.run pos pins s σ H _ I h
  rw [hs] at z ⊢
  show wpAny (model X.prog X.w) X.A (evalArgs (.type "enumerate") true ((false, eval e X.env) :: []) (backToKw pos (keywordEach [⟨some "start", c, kpos⟩] X.env))) _ _ _
  refine evalArgs_kw rfl (thn (show wpAny (model X.prog X.w) X.A (spliced ((false, eval e X.env) :: [])) _ X.xe s from z) fun us s1 ⟨vs, H1, I1, r1, a, xs, ex, hq, q⟩ => ?_)
  subst ex
  refine thn ((pk_cons (nm := some "start") (kpos := kpos) hc pk_nil).run pos pins s1 σ H1 (fun zs H2 => zs = [.int k] ∧ H2 = H1) I1 ⟨rfl, rfl⟩) fun ws s2 ⟨zs, H2, I2, rz, ez, eH⟩ => ?_
  subst ez eH
  cases r1 with
  | cons r rr =>
    cases rr
    cases r
    cases rz with
    | cons rk rr =>
      cases rr
      obtain ⟨tk, rfl⟩ := rk
      obtain ⟨its, rv, p', hz⟩ := I2.list hq
      show wpAny _ _ (call (.type "enumerate") [.ref a] [(Str.ofString "start", .int k tk)]) _ _ _
      refine enum_begins_start (begins_list a its.toArray) p'.isList hk0 hk1 fun h' he hit hsz hk => wpAny_pyIter_enum he ?_
      have I3 : L2.Inv X pins σ H2 { s2 with heap := h' } := I2.kept (t' := s2.toks) hk
      refine ⟨s2.heap.objs.size + 1, [s2.heap.objs.size + 1, s2.heap.objs.size], _, _, H2, rfl, I3, turn_enumC a (s2.heap.objs.size + 1) s2.heap.objs.size k, ⟨⟨.none, by simpa using he⟩, ⟨_, hit, rfl, rfl⟩, Nat.succ_ne_self _⟩, fun b hb => ?_, q⟩
      have z : b = s2.heap.objs.size + 1 ∨ b = s2.heap.objs.size := by simpa using hb
      have hle : s2.heap.objs.size ≤ b := by
        rcases z with z | z
        · rw [z]; exact Nat.le_add_right _ _
        · rw [z]; exact Nat.le_refl _
      exact I2.fpOk hle (I2.hok.fresh hle)
end U

set_option Elab.async false
set_option linter.all false
set_option autoImplicit false
set_option maxRecDepth 100000
set_option maxHeartbeats 4000000
namespace U
open PySem PySem.Spec PyProof.Rows L2
/-! ## texts as lists of signs, lists of texts as data -/
abbrev zD (l : List Nat) : PyData := .str (SX.S l)
theorem lit_of {s : String} {l : List Nat} (h : s.toList.map Char.toNat = l) : Str.ofString s = SX.S l := TL.ext_tl ((TL.tl_ofString s).trans h)
theorem l_nl : Str.ofString "\n" = SX.S [10] := lit_of (by decide +kernel)
theorem l_sp : Str.ofString " " = SX.S [32] := lit_of (by decide +kernel)
theorem l_e : Str.ofString "" = SX.S [] := lit_of (by decide +kernel)
theorem S_of (z : Str) : SX.S (TL.tl z) = z := SX.S_tl z
section
variable {K : PySem.W.Frag} {Z : List Addr} {H : Hp}
theorem dts_z : ∀ ls : List (List Nat), Dts K Z H ((ls.map SX.S).map V.str) (ls.map zD)
  | [] => .nil
  | l :: r => .cons (.str _) (dts_z r)
theorem dts_z_inv : ∀ (ls : List (List Nat)) {xs : List V}, Dts K Z H xs (ls.map zD) → xs = (ls.map SX.S).map V.str
  | [], _, h => by cases h; rfl
  | l :: r, _, h => by
    cases h with
    | cons h1 h2 => rw [h1.str_inv, dts_z_inv r h2]; rfl
end
def rSplit : V → List V → Hp → VK → Prop := fun x xs H Q => ∃ a b, x = .str a ∧ xs = [.str b] ∧ (b.length == 0) = false ∧ a.length + 2 ≤ sizeLine ∧ rNewStrs (Txt.split a b) H Q
def rLstr : V → List V → Hp → VK → Prop := fun x xs H Q => ∃ a b, x = .str a ∧ xs = [.str b] ∧ a.length ≤ sizeLine ∧ Q (.str (Txt.lstripChars a b)) H
def rJoin (K : PySem.W.Frag) : V → List V → Hp → VK → Prop := fun x xs H Q => ∃ a p, ∃ ys : List Str, x = .str a ∧ xs = [.ref p] ∧ (SqL K H p (ys.map V.str) ∨ SqT K H p (ys.map V.str)) ∧ (ys.map (·.length)).sum + ys.length * a.length ≤ 16777216 ∧ Q (.str (Txt.join a ys)) H
def rStrA : List V → Hp → VK → Prop := fun xs H Q => (∃ a, xs = [.str a] ∧ Q (.str a) H) ∨ rStrI xs H Q
section
variable {X : Cx}
theorem m_split : MtR X "str.split" rSplit := mt_split
theorem m_lstr : MtR X "str.lstrip" rLstr := mt_lstripChars
theorem m_joinK (K : PySem.W.Frag) (hK : X.K = K := by rfl) : MtR X "str.join" (rJoin K) := by subst hK; exact mt_join
theorem c_strA : CallR X (.type "str") rStrA := by
  intro pins s σ H xs us Q I r h
  rcases h with h | h
  · exact SkE.call_str_str pins s σ H xs us Q I r h
  · exact c_strI pins s σ H xs us Q I r h
end
theorem join_nil : ∀ ls : List (List Nat), TL.joinL [] ls = ls.flatten
  | [] => rfl
  | [p] => by simp [TL.joinL]
  | p :: q :: r => by
    show p ++ ([] ++ TL.joinL [] (q :: r)) = _
    rw [join_nil (q :: r)]
    rfl
section
variable {K : PySem.W.Frag} {B : Bs} {H H' : Hp} {Z Z' : List Addr} {L L' : List Ent} {M M' : List (List V × List PyData)} {Q : VK} {v x y : V} {d : PyData} {ds : List PyData} {vs : List V} {σ : L2.St} {a b : List Nat} {z : Str} {c : Nat} {ls : List (List Nat)}
theorem h_split (h : Hs K B Z H L M) (e : z = SX.S [c]) (hc : c < 256) (ha : a.length ≤ 100000) (k : ∀ q H', Hs K B Z H' (.dl K q ((Px.cut c a).map zD) true :: L) M → Q (.ref q) H') : rSplit (.str (SX.S a)) [.str z] H Q := by
  subst e
  refine ⟨_, _, rfl, rfl, rfl, ?_, fun p hp => k p _ (h.newDl (Kp.new hp) hp ⟨_, upd_same, ?_⟩)⟩
  · have e : sizeLine = 16777216 := by decide
    rw [SX.S_len, e]; omega
  · rw [Px.split_cut a hc]
    exact dts_z _
theorem h_lstr (e : z = SX.S [c]) (ha : a.length ≤ 100000) (k : Q (.str (SX.S (a.dropWhile fun x => decide (x = c)))) H) : rLstr (.str (SX.S a)) [.str z] H Q :=
  ⟨_, _, rfl, rfl, by rw [SX.S_len]; exact sl5 ha, by subst e; rw [Px.lstrip_S]; exact k⟩
theorem h_joinG {e : List Nat} (ez : z = SX.S e) (l : DLv K Z H v (ls.map zD)) (hz : (ls.map List.length).sum + ls.length * e.length ≤ 1000000) (k : Q (.str (SX.S (TL.joinL e ls))) H) : rJoin K (.str z) [v] H Q := by
  subst ez
  obtain ⟨p, rfl, l⟩ := l
  obtain ⟨xs, t, q⟩ := l.sq
  rw [dts_z_inv ls q] at t
  refine ⟨_, p, ls.map SX.S, rfl, rfl, .inl t, ?_, by rw [SX.join_S]; exact k⟩
  rw [SX.lens, List.length_map, SX.S_len]
  exact Nat.le_trans hz (by decide)
theorem h_strAs (m : Dt K Z H v (.str z)) (k : Q (.str z) H) : rStrA [v] H Q := .inl ⟨z, by rw [m.str_inv], k⟩
theorem h_strAi {i : Int} (m : Dt K Z H v (.int i)) (hi : i.natAbs.log2 < 1920) (k : Q (.str (SX.S (Tx.iL i))) H) : rStrA [v] H Q := .inr ⟨i, by rw [m.int_inv], hi, by rw [Tx.str_int]; exact k⟩
theorem h_minL {ns : List Int} (l : DLv K Z H v (ns.map PyData.int)) (h0 : 0 < ns.length) (k : ∀ m, m ∈ ns → (∀ y ∈ ns, m ≤ y) → Q (.int m) H) : rMin K [v] H Q := by
  obtain ⟨p, rfl, l⟩ := l
  obtain ⟨xs, t, q⟩ := l.sq
  rw [Dts.ints_inv ns q] at t
  exact ⟨p, ns, rfl, t, h0, k⟩
/-! enumerate(list, start=k) -/
def EnQ (K : PySem.W.Frag) (k : Int) (vs : List V) (R : It → Hp → Prop) (H : Hp) : Prop := ∃ a xs, vs = [.ref a] ∧ SqL K H a xs ∧ R (IteC K a k) H
theorem u_en {k : Int} {ta : TA} {R : It → Hp → Prop} (h : ta σ H fun vs H1 => EnQ K k vs R H1) : iEnumC K k ta σ H R := h
theorem h_en {k : Int} {R : It → Hp → Prop} (l : DLv K Z H v ds) (q : R (IteC K (TA_ v) k) H) : EnQ K k [v] R H := by
  obtain ⟨p, rfl, l⟩ := l
  obtain ⟨ys, t, _⟩ := l.sq
  exact ⟨p, ys, rfl, t, q⟩
theorem l_en {k0 : Int} {g : TG} {tb : TS} {D : Ends} (ds : List PyData) (Pv : Nat → L2.St → Hp → Prop) (h0 : Pv 0 σ H) (hl : ∀ i σ H, i ≤ ds.length → Pv i σ H → ∃ Z, DLv K Z H v ds)
    (hs : ∀ i d x σ H H', ds[i]? = some d → Kp [] H H' → (∀ Z, DLv K Z H v ds → Dt K Z H' x (.tuple [.int (k0 + (i : Nat)), d])) → Pv i σ H → g x σ H' fun σ2 H2 => tb { D with nx := Pv (i + 1), ct := Pv (i + 1), bk := D.nx } σ2 H2) (hd : ∀ σ H, Pv ds.length σ H → D.nx σ H) : LoopQ (IteC K (TA_ v) k0) g tb D σ H := by
  refine ⟨fun i m σ H => m = ds.length - i ∧ i ≤ ds.length ∧ Pv i σ H, ⟨_, rfl, Nat.zero_le _, h0⟩, ?_⟩
  rintro i m σ H ⟨rfl, hi, p⟩
  obtain ⟨Z, a, rfl, l⟩ := hl i σ H hi p
  obtain ⟨xs, t, q⟩ := l.sq
  by_cases hlt : i < ds.length
  · obtain ⟨d, ed⟩ : ∃ d, ds[i]? = some d := ⟨_, List.getElem?_eq_getElem hlt⟩
    obtain ⟨x, ex, qx⟩ := q.at ed
    refine .inr ⟨⟨xs, x, t, ex⟩, Pv (i + 1), fun σ' H' p' => ⟨ds.length - (i + 1), by omega, rfl, hlt, p'⟩, ?_⟩
    rintro x' H' ⟨T, x2, rfl, nT, rfl, hx⟩
    refine hs i d _ σ H _ ed (Kp.new nT) (fun Z' l' => ?_) p
    obtain ⟨a', e', l'⟩ := l'
    cases e'
    obtain ⟨xs', t', q'⟩ := l'.sq
    have h2 := hx xs' t'
    obtain ⟨x3, ex3, qx3⟩ := q'.at ed
    rw [ex3] at h2
    cases h2
    exact .tup upd_same (.cons (.int _) (.cons (qx3.im (Kp.new nT).im) .nil))
  · obtain rfl : i = ds.length := by omega
    exact .inl ⟨⟨xs, t, by rw [q.length]; exact Nat.le_refl _⟩, hd σ H p⟩
/-! a constant tuple of texts -/
theorem h_ixC {p : Addr} {xs : List V} {i : Int} {w : V} (c : ∀ H, SqT K H p xs) (e : atI xs i = some w) (k : Q w H) : rIxT K (.ref p) (.int i) H Q := ⟨p, xs, i, w, rfl, rfl, c H, e, k⟩
theorem h_lenC {p : Addr} {xs : List V} (c : ∀ H, SqT K H p xs) (k : Q (.int xs.length) H) : rLenA K [.ref p] H Q := ⟨p, xs, rfl, .inr (c H), k⟩
/-! [.., *x] -/
def StQ (K : PySem.W.Frag) (x : V) (H : Hp) (R : List V → Prop) : Prop := ∃ p xs, x = V.ref p ∧ (SqT K H p xs ∨ SqL K H p xs) ∧ R xs
theorem u_star {te : TE} {t : TA} {R : List V → Hp → Prop} (h : te σ H fun x H1 => StQ K x H1 fun xs => t σ H1 fun ys H2 => R (xs ++ ys) H2) : StX.tStar K te t σ H R := h
theorem h_starT {R : List V → Prop} (m : Dt K Z H v (.tuple ds)) (k : ∀ xs, Dts K Z H xs ds → R xs) : StQ K v H R := by
  obtain ⟨a, xs, rfl, t, q⟩ := m.tup_inv
  exact ⟨a, xs, rfl, .inl t.sq, k xs q⟩
theorem h_starL {R : List V → Prop} (l : DLv K Z H v ds) (k : ∀ xs, Dts K Z H xs ds → R xs) : StQ K v H R := by
  obtain ⟨p, rfl, l⟩ := l
  obtain ⟨xs, t, q⟩ := l.sq
  exact ⟨p, xs, rfl, .inr t, k xs q⟩
/-! texts, exactly -/
theorem h_addS (ha : a.length + b.length ≤ 100000) (k : Q (.str (SX.S (a ++ b))) H) : rAddS (.str (SX.S a)) (.str (SX.S b)) H Q := u_addS (by rw [SX.S_len, SX.S_len]; exact ha) (by rw [SX.S_cat]; exact k)
theorem h_addSl (ez : z = SX.S b) (ha : a.length + b.length ≤ 100000) (k : Q (.str (SX.S (a ++ b))) H) : rAddS (.str (SX.S a)) (.str z) H Q := by subst ez; exact h_addS ha k
theorem h_addSr (ez : z = SX.S a) (ha : a.length + b.length ≤ 100000) (k : Q (.str (SX.S (a ++ b))) H) : rAddS (.str z) (.str (SX.S b)) H Q := by subst ez; exact h_addS ha k
theorem h_lenS (ha : a.length ≤ 100000) (k : Q (.int a.length) H) : rLenS [.str (SX.S a)] H Q := u_lenS (by rw [SX.S_len]; exact ha) (by rw [SX.S_len]; exact k)
theorem h_rep0 {i : Int} (e : i = 0) (hz : z.length ≤ 1000) (k : Q (.str (SX.S [])) H) : rRepG (.str z) (.int i) H Q := by
  subst e
  refine f_repG (by decide) (by decide) hz fun y hy => ?_
  have : y = SX.S [] := by
    apply TL.ext_tl
    have h0 : y.length = 0 := by omega
    show y.cps.toList = []
    have : y.cps.toList.length = 0 := by rw [Array.length_toList]; exact h0
    exact List.eq_nil_of_length_eq_zero this
  rw [this]
  exact k
end
end U

set_option Elab.async false
set_option linter.all false
set_option autoImplicit false
set_option maxRecDepth 100000
set_option maxHeartbeats 4000000
namespace U
open PySem PySem.Spec PyProof.Rows L2
/-! ## what a caught error with fields is -/
def rIsX2 (K : PySem.W.Frag) (cls : Value) (d : Option Addr) (a : Addr) : List V → Hp → VK → Prop := fun xs H Q => ∃ (D dd : Addr) (fs : List (Str × V)) (c : V) (cv : Value) (b : Bool), cls = .ref D ∧ d = some dd ∧ H dd = some (.xd fs) ∧ ExcC K D ∧ xs = [.ref a, c] ∧ ClsV c cv ∧ PySem.W.kitOne K (.ref D) cv = some b ∧ Q (.bl b) H
def rIsXT (K : PySem.W.Frag) (cls : Value) (d : Option Addr) (a : Addr) : List V → Hp → VK → Prop := fun xs H Q => ∃ (D dd tp : Addr) (fs : List (Str × V)) (cs : List V) (us : List Value) (b : Bool), cls = .ref D ∧ d = some dd ∧ H dd = some (.xd fs) ∧ ExcC K D ∧ xs = [.ref a, .ref tp] ∧ H tp = some (.tup cs) ∧ Paired ClsV cs us ∧ PySem.W.kitAny K (.ref D) us = some b ∧ Q (.bl b) H
section
variable {X : Cx} {a : Addr} {oe : Obj} {cls : Value} {d : Option Addr} {pn : List (Addr × Obj)}
theorem inst_xd {pins : List (Addr × Obj)} {σ : L2.St} {H : Hp} {s : Shared} {D dd : Addr} {fs : List (Str × V)} (I : Inv (X.suite a ((a, oe) :: pn)) pins σ H s) (hz : Zc (.ref D) (some dd) oe) (hf : ∃ vs, oe.data = .fields vs) (hx : H dd = some (.xd fs)) : ∃ od, PySem.W.InstAt s.heap a oe D (some od) := by
  obtain ⟨got, _⟩ := I.pin (a, oe) (List.mem_append.mpr (.inl List.mem_cons_self))
  obtain ⟨vs, hv⟩ := hf
  obtain ⟨mA, ns, _⟩ := (show ObjOk X.prog X.w H s.heap dd (.xd fs) from I.hok dd _ hx)
  obtain ⟨od, ho, _⟩ := lookIn_ns ns
  exact ⟨od, got, hz.1, by unfold PySem.W.notCls; rw [hv] <;> rfl, by rw [hz.2]; exact ho⟩
theorem exc_isc {K : PySem.W.Frag} {D : Addr} (h : ExcC K D) : (PySem.W.clsIn K D).isSome = true := by
  have z := h.hd
  unfold PySem.W.hasDictIn at z
  cases e : PySem.W.clsIn K D with
  | none => rw [e] at z; simp at z
  | some _ => rfl
theorem c_isX (hz : Zc cls d oe) (hf : ∃ vs, oe.data = .fields vs) : CallR (X.suite a ((a, oe) :: pn)) (.builtin "isinstance") (rIsX2 X.K cls d a) := by
  intro pins s σ H xs us Q inv rel asked
  obtain ⟨D, dd, fs, c, cv, b, rfl, rfl, hx, C, rfl, kc, e, q⟩ := asked
  obtain ⟨u1, u2, rfl, r1, r2⟩ := vals2 rel
  cases (show u1 = Value.ref a from r1)
  obtain rfl : u2 = cv := kc.eq r2
  obtain ⟨od, J⟩ := inst_xd inv hz hf hx
  exact PySem.W.kia_one (PySem.W.kitx_exc (exc_isc C) C.hg C.hk C.hs C.ha C.hn C.ht C.hm) inv.kIn J e (fun z => nomatch z) fun tk => ⟨.bl b, H, inv.kept (t' := tk) fun _ _ z => z, rfl, q⟩
theorem c_isXT (hz : Zc cls d oe) (hf : ∃ vs, oe.data = .fields vs) : CallR (X.suite a ((a, oe) :: pn)) (.builtin "isinstance") (rIsXT X.K cls d a) := by
  intro pins s σ H xs us Q inv rel asked
  obtain ⟨D, dd, tp, fs, cs, ws, b, rfl, rfl, hx, C, rfl, hT, kc, e, q⟩ := asked
  obtain ⟨u1, u2, rfl, r1, r2⟩ := vals2 rel
  cases (show u1 = Value.ref a from r1)
  cases (show u2 = Value.ref tp from r2)
  obtain ⟨_, its, rv, o, h1, h2, n, h3⟩ := (show ObjOk X.prog X.w H s.heap tp (.tup cs) from inv.hok tp _ hT)
  have alike := ClsV.all kc rv
  subst alike
  obtain ⟨oc, od0, dt, sl⟩ := o
  dsimp only at h2 h3
  subst h2 h3
  obtain ⟨od, J⟩ := inst_xd inv hz hf hx
  exact PySem.W.kia_tup (PySem.W.kitx_exc (exc_isc C) C.hg C.hk C.hs C.ha C.hn C.ht C.hm) inv.kIn J h1 e (fun z => nomatch z) fun tk => ⟨.bl b, H, inv.kept (t' := tk) fun _ _ z => z, rfl, q⟩
end
section
variable {K : PySem.W.Frag} {mg : Str → Option Value} {D a dd : Addr} {fs : List (Str × V)} {H : Hp} {Q : VK}
theorem isX_own {C : Addr} {b : Bool} (e : ExcC K D) (hx : H dd = some (.xd fs)) (k : PySem.W.kitOne K (.ref D) (.ref C) = some b) (q : Q (.bl b) H) : rIsX2 K (.ref D) (some dd) a [.ref a, .ref C] H Q := ⟨D, dd, fs, .ref C, .ref C, b, rfl, rfl, hx, e, rfl, .own C, k, q⟩
theorem isX_VE (e : ExcC K D) (hx : H dd = some (.xd fs)) (s : PySem.W.subIn K (.ref D) (.type "ValueError") = some true) (q : Q (.bl true) H) : rIsX2 K (.ref D) (some dd) a [.ref a, .ty "ValueError"] H Q := ⟨D, dd, fs, .ty "ValueError", .type "ValueError", true, rfl, rfl, hx, e, rfl, .ty "ValueError", kit_bty meta_VE s, q⟩
theorem isXT_none (Cs : List Addr) {tp : Addr} (e : ExcC K D) (hx : H dd = some (.xd fs)) (ht : H tp = some (.tup (Cs.map V.ref))) (h : ∀ C ∈ Cs, PySem.W.kitOne K (.ref D) (.ref C) = some false) (q : Q (.bl false) H) : rIsXT K (.ref D) (some dd) a [.ref a, .ref tp] H Q :=
  ⟨D, dd, tp, fs, _, _, false, rfl, rfl, hx, e, rfl, ht, cls_all Cs, kit_none h, q⟩
theorem ErrC.yes {x : Str} {C : Addr} (h : ErrC K mg x C) (s : PySem.W.subIn K (.ref D) (.ref C) = some true) : PySem.W.kitOne K (.ref D) (.ref C) = some true := by
  by_cases e : D = C
  · subst e; exact kit_self
  · exact kit_own h.e.hd h.t (by simpa using e) s
theorem oex_self {K : PySem.W.Frag} {C : Addr} (T : OexC K C) : PySem.W.subIn K (.ref C) (.ref C) = some true := by
  obtain ⟨nm, q', N', bs, bm, sn, sub, ab, col, dd, k0, k1, k2, k3, k5, hC, _⟩ := T.cls
  have hcl : PySem.W.clsIn K C = some { name := nm, bases := bs, mro := .ref C :: bm, ns := N', qualname := q', hasDict := true, slotNames := sn, subclasses := sub, abstract := ab, collection := col, hasDel := false } := by unfold PySem.W.clsIn; rw [hC] <;> rfl
  show PySem.W.mroIn K C (.ref C) = some true
  unfold PySem.W.mroIn
  rw [hcl, Option.bind_some, if_neg (by simp)]
  simp
def XfQ (a : Addr) (cls : Value) (d : Option Addr) (C : Addr) (f : Str) (x : V) (H : Hp) (Q : VK) : Prop := x = .ref a ∧ cls = .ref C ∧ ∃ (dd : Addr) (fs : List (Str × V)) (v : V), d = some dd ∧ H dd = some (.xd fs) ∧ fs.lookup f = some v ∧ Q v H
theorem u_xf {a : Addr} {cls : Value} {d : Option Addr} {C : Addr} {f : Str} {te : TE} {σ : L2.St} {H : Hp} {Q : VK} (h : te σ H fun x H1 => XfQ a cls d C f x H1 Q) : tXf a cls d C f te σ H Q := h
theorem xf_of {a dd C : Addr} {f : Str} {fs : List (Str × V)} {v : V} {H : Hp} {Q : VK} (hx : H dd = some (.xd fs)) (l : fs.lookup f = some v) (q : Q v H) : XfQ a (.ref C) (some dd) C f (.ref a) H Q := ⟨rfl, rfl, dd, fs, v, rfl, hx, l, q⟩
end
end U

set_option Elab.async false
set_option linter.all false
set_option autoImplicit false
set_option maxRecDepth 100000
set_option maxHeartbeats 4000000
namespace U
open PySem PySem.Spec PyProof.Rows L2 NdefX
/-! ## an own exception raised where another one is handled -/
section
variable {P : Program} {w : World} {K : PySem.W.Frag} {mg : Str → Option Value} {base : Heap} {C f : Addr} {qual fld x : Str} {params : Arguments} {body : List Stmt} {scope : Scope} {fd : FuncData} {e : Expr} {te : TE} {ar : Arg} {p0 p1 p2 p3 p4 p5 p6 p7 p8 : Pos}
theorem fn_supH (F : SupC P K mg C f qual params body scope fld fd) (S : NScope ["self", x, "__class__"] ["self", x] ["__class__"] scope)
    (hb : body = [.Expr (.Call (.Attribute (.Call (.Name "super" p0) [] [] p1) "__init__" p2) [e] [] p3) p4, .Assign [.Attribute (.Name "self" p5) fld p6] (.Name x p7) p8])
    (hp : (params.posonlyargs ++ params.args).head? = some ar) (har : ar.arg = "self") (hks : scope.names.lookup ("super" : Str) = some .globalImplicit)
    (hdx : (x == ("__debug__" : Str)) = false) (hcx : (x == ("__classdict__" : Str)) = false)
    (he : ∀ (cc cda : Addr) (A : Around) (outer : List Env) (s : Shared) (H : Hp) (E : XK) (pp : Addr × Obj), PE (ncxH C8.CX0 P w K mg base ["self", x, "__class__"] (nfS qual params body scope cc cda) f A outer s H E pp) e te)
    (hte : ∀ (a : Addr) (i : Int) (H : Hp) (Q : VK), i.natAbs < 1000000 → (∀ z : Str, Q (.str z) H) → te [some (.ref a), some (.int i), some (.ref C)] H Q)
    (hst : ∀ env : Env, starEach [e] env = [(false, eval e env)])
    (hsw : ∀ env : Env, swapsWith (.Call (.Attribute (.Call (.Name "super" p0) [] [] p1) "__init__" p2) [e] [] p3) none p4.line env = pure false) (hsw2 : ∀ env : Env, swapsWith (.Name x p7) (some (.Attribute (.Name "self" p5) fld p6)) p8.line env = pure false) (hint : ∀ (cc cda L : Addr), interactive (envF (nfS qual params body scope cc cda) f L) = false)
    (hc : ∀ env : Env, eval (.Call (.Attribute (.Call (.Name "super" p0) [] [] p1) "__init__" p2) [e] [] p3) env = (do
      let ov ← attributeBase (.Call (.Name "super" p0) [] [] p1) "__init__" env (eval (.Call (.Name "super" p0) [] [] p1) env)
      standAt p2.atName
      let (f, first) ← holding [ov] (getMethod ov "__init__" (pure false))
      callWith p3 f first (backTo p3 (starEach [e] env)) [])) :
    L2H.FnH P w K mg base C8.CX0 2 f fd ["self", x] (spSup C fld) := by
  refine ⟨fun vs H Q E h => by obtain ⟨a, i, rfl, _⟩ := h; rfl, fun A outer s H args us vs Q E pp hr hot hpin e0 hbd r hsp => ?_⟩
  obtain ⟨a, i, rfl, hi, ha, q⟩ := hsp
  obtain ⟨oc, od, kV, doc, pm, an, cda, cc, ct, osl, ccl, cdd, fs, ccs, cl, cld, csl, file, tf, rfl, lk, hcd, lcd, hvs, hfile, lcc⟩ := F.ex
  have KX : K.In s.heap := e0.mod.kin.keeps fun b o e => (e0.bs b o e).1
  have lim : s.heap.NoLimit := e0.mod.nolimit.keeps fun b o e => (e0.bs b o e).1
  have cells : CellsAt (nfS qual params body scope cc cda).cl ["__class__"] [some (V.ref C)] s.heap H := by
    refine ⟨rfl, fun y c z => ?_, fun y1 y2 c z1 z2 => ?_, fun j y z => ?_⟩
    · have hy : y = "__class__" ∧ c = cc := by
        have z : List.lookup y [(("__class__" : Str), cc)] = some c := z
        rw [lookA] at z
        split at z
        · rename_i e; exact ⟨e, (Option.some.inj z).symm⟩
        · cases z
      obtain ⟨rfl, rfl⟩ := hy
      exact ⟨(e0.bs _ _ (e0.mod.kin _ _ lcc)).2, _, _, KX _ _ lcc, rfl⟩
    · have one : ∀ {y : Str}, List.lookup y [(("__class__" : Str), cc)] = some c → y = "__class__" := fun {y} z => by
        rw [lookA] at z
        split at z
        · assumption
        · cases z
      rw [one z1, one z2]
    · match j, z with
      | 0, z =>
        cases z
        refine ⟨cc, by show List.lookup _ [(("__class__" : Str), cc)] = _; rw [lookA, if_pos rfl], fun v z => ?_⟩
        cases z
        exact ⟨.ref C, rfl, _, KX _ _ lcc, rfl⟩
      | j + 1, z => simp at z
  refine PySem.ks_codeAny_call_defAt (fd := PySem.W.fnX "__init__" qual params body scope [("__class__", cc)] .none kV doc pm an (.ref cda) ct) (body := body) hr.depth (KX _ _ lk) rfl lim (PySem.W.codeRec_of KX hcd) rfl hbd S.nocell (fun ⟨n, _⟩ hy => S.par n (List.of_mem_zip hy).1) (fun h₁ hns kp => ?_) S.co S.gen S.kind
  have I : L2.Inv (ncxH C8.CX0 P w K mg base ["self", x, "__class__"] (nfS qual params body scope cc cda) f A outer s H E pp) [] (startF ["self", x, "__class__"] [.ref a, .int i] [some (.ref C)]) H { s with heap := h₁, toks := s.toks + ((["self", x] : List Str).zip us).length } :=
    inv_startNH S hpin e0 rfl r cells hns kp
  have fin : ∀ {fl : Flow} {s' : Shared}, SP (ncxH C8.CX0 P w K mg base ["self", x, "__class__"] (nfS qual params body scope cc cda) f A outer s H E pp) [] { nx := fun _ H' => Q .non H', rt := Q } fl s' → CR C8.CX0 outer P w H s Q E (.ok (.ret (match fl with | .ret v => v | _ => .none))) s' := fun {fl s'} hs => by
    cases fl with
    | ret u =>
      obtain ⟨v, σ', H', J, rv, q⟩ := hs
      exact ⟨v, H', J.os, J.bare, J.base, J.hok, rv, q⟩
    | next =>
      obtain ⟨σ', H', J, q⟩ := hs
      exact ⟨V.non, H', J.os, J.bare, J.base, J.hok, rfl, q⟩
    | brk =>
      obtain ⟨_, _, _, q⟩ := hs
      exact False.elim q
    | cont =>
      obtain ⟨_, _, _, q⟩ := hs
      exact False.elim q
  have nd : (["self", x, "__class__"] : List Str).Nodup := S.nd
  have lself : scope.names.lookup ("self" : Str) = some .local := S.par _ (by simp)
  have lx : scope.names.lookup x = some .local := S.par _ (by simp)
  subst hb
  generalize hX : ncxH C8.CX0 P w K mg base ["self", x, "__class__"] (nfS qual params _ scope cc cda) f A outer s H E pp = X at I fin
  have eN : X.N = (["self", x, "__class__"] : List Str) := by rw [← hX]; rfl
  have eS : X.env.scope = scope := by rw [← hX]; rfl
  have eK : X.K = K := by rw [← hX]; rfl
  have eP : X.prog = P := by rw [← hX]; rfl
  have eG : X.mg = mg := by rw [← hX]; rfl
  have eF : X.env.func = some f := by rw [← hX]; rfl
  have eC : X.env.code = .ref cda := by rw [← hX]; rfl
  have eL : X.env.cells.lookup ("__class__" : Str) = some cc := by rw [← hX]; show List.lookup _ [(("__class__" : Str), cc)] = _; rw [lookA, if_pos rfl]
  have eE : interactive X.env = false := by rw [← hX]; exact hint cc cda _
  have hpe : PE X e te := by rw [← hX]; exact he cc cda A outer s H E pp
  have main : _root_.PySem.wpAt (model X.prog X.w) X.A (.func [.Expr (.Call (.Attribute (.Call (.Name "super" p0) [] [] p1) "__init__" p2) [e] [] p3) p4, .Assign [.Attribute (.Name "self" p5) fld p6] (.Name x p7) p8] X.env) (execs [.Expr (.Call (.Attribute (.Call (.Name "super" p0) [] [] p1) "__init__" p2) [e] [] p3) p4, .Assign [.Attribute (.Name "self" p5) fld p6] (.Name x p7) p8] X.env)
      (SP X [] { nx := fun _ H' => Q .non H', rt := Q }) X.xe { s with heap := h₁, toks := s.toks + ((["self", x] : List Str).zip us).length } := by
    refine PySem.ks_wpAt_execs_cons (PySem.ks_wpAt_Expr_any ?_ eE (hsw _))
    refine _root_.PySem.wpAt_mono (sup_init (ix := 0) (a := a) (C := C) (f := f) (cc := cc) (cda := cda) (ar := ar) (Q := fun H1 => H1 = H) (ta := tCons te tNil) I (by rw [eK]; exact F.T) rfl (by rw [eN, har]; rfl) (by rw [eS, har]; exact lself) eL (by rw [eK]; exact lcc) (by rw [eS]; exact hks) (by rw [eS]; exact S.frk _ (by simp))
      eF (by rw [eK]; exact lk) rfl hp eC (by rw [eK]; exact lcd) rfl hvs (by rw [eP]; exact hfile) (by rw [eP]; exact F.top) (by rw [eG]; exact F.mS) (by rw [eK]; exact F.any) (by rw [eK]; exact F.sup) ha (pa_cons hpe pa_nil (hst _)) (hst _) (by rfl) (hc _) ?_) (fun _ s' ⟨H', J, e'⟩ => ?_) fun _ _ z => z
    · exact hte a i H _ hi fun z => ⟨by simp, ha, rfl⟩
    · subst e'
      have ps : PSs X [.Assign [.Attribute (.Name "self" p5) fld p6] (.Name x p7) p8] (tOst X.K fld (tVar 0) (tVar 1)) := pss_one (ps_ost (pe_var (by rw [eN]; rfl) (.inl (by rw [eS]; exact lself))) (pe_var (by rw [eN]; rfl) (.inl (by rw [eS]; exact lx)) hdx hcx) (hsw2 _))
      exact _root_.PySem.wpAt_of_wpAny (ps.run [] s' _ H' _ J ⟨_, rfl, _, rfl, a, C, rfl, by rw [eK]; exact F.T, by rw [eK]; exact F.no, .inl ⟨ha, fun dx n1 n2 => q dx n1 n2⟩⟩)
  subst hX
  exact _root_.PySem.wpAt_mono main (fun _ _ z => fin z) fun _ _ z => z
def NcExH (P : Program) (w : World) (K : PySem.W.Frag) (mg : Str → Option Value) (base : Heap) (C : Addr) (fld : Str) : Prop :=
  ∃ (f : Addr) (fd : FuncData) (ps : List Str), OexC K C ∧ PySem.W.findIn K (.ref C) "__init__" = some (some (.ref f)) ∧ PySem.W.typeIn K (.ref f) = some (.type "function") ∧ L2H.FnH P w K mg base C8.CX0 2 f fd ps (spSup C fld) ∧ Binds K fd ps []
theorem pmk_exH {X : Cx} {x : Str} {C : Addr} {fld : Str} {e : Expr} {es : List Expr} {ta : TA} {p pos : Pos} (N : NcExH X.prog X.w X.K X.mg X.base C fld) (hr : L2H.RoomH 3 X.A) (hot : L2H.HotC X) (hm : X.mg x = some (.ref C)) (ha : PA X (e :: es) ta) (hg : Gl X x := by rfl)
    (hdb : (x == ("__debug__" : Str)) = false := by decide) (he : starEach (e :: es) X.env = (false, eval e X.env) :: starEach es X.env := by rfl) (hpl : (backTo pos (starEach es X.env)).any (·.1) = false := by rfl) :
    L2H.PMk5 X (.Call (.Name x p) (e :: es) [] pos) (tMkX C fld ta) := by
  obtain ⟨f, fd, ps, T, ini, ty, ok, bd⟩ := N
  intro pins s σ H Q I h
  refine L2H.pmk5_oexH (CX := C8.CX0) T ini ty ok hr hot bd (fun _ _ _ _ _ _ _ z => z.elim) hg hm (pa_weak ha) hdb he hpl pins s σ H Q I ⟨_, h, fun vs H1 z => ?_⟩
  obtain ⟨i, rfl, hi, q⟩ := z
  refine ⟨by simp, fun a hn => ⟨a, i, by simp, hi, upd_same, fun dx n1 n2 => ?_⟩⟩
  have n3 : H1 dx = none := by rw [upd_ne n2] at n1; exact n1
  refine ⟨rfl, dx, _, upd_same, by rw [upd_ne n2, upd_same], n3, q dx _ n3 (fun b u _ e => ?_) upd_same⟩
  have ba : b ≠ a := ne_of_none e hn
  have bd : b ≠ dx := ne_of_none e n3
  rw [upd_ne bd, del_ne ba, upd_ne ba, upd_ne bd, upd_ne ba]
  exact e
end
/-! ## defs whose exceptions have no context yet -/
theorem passN {X : Cx} : Passes (L2N.CX X.prog X.w) X E0 := fun _ _ _ _ _ _ _ h => by
  obtain ⟨_, _, _, _, _, _, _, _, _, _, _, _, z⟩ := h
  exact z.elim
section
variable {P : Program} {w : World} {K : PySem.W.Frag} {mg : Str → Option Value} {base : Heap}
theorem okN {x qual : Str} {st : Stmt} {f : Addr} {fd : FuncData} {N ps : List Str} {k : Nat} {sp : Sp} (F : Fun K x qual st f fd) (S : FnScope N ps (defScope st)) (len : ∀ vs H Q E, sp vs H Q E → vs.length = ps.length)
    (hb : ∀ (cdv : Value) (A : Around) (outer : List Env) (s : Shared) (H : Hp) (vs : List V) (Q : VK) (E : XK), Room k (A.deeper (envOfC qual (defScope st) s.heap.objs.size f cdv)) → sp vs H Q E →
      ∃ t, PSs (cxOf (L2N.CX P w) P w K mg base N qual (defScope st) f cdv A outer s H E) (defBody st) t ∧ t { nx := fun _ H' => Q .non H', rt := Q } (start N vs) H) : FnOk P w K mg base (L2N.CX P w) (k + 1) f fd ps sp := by
  obtain ⟨oc, od, kV, doc, pm, an, cdv, ct, osl, rfl, lk, cd⟩ := F.ex
  exact fn_of lk cd S len fun A outer s H vs Q E hr asked => hb cdv A outer s H vs Q E hr asked
theorem mc_ofN {m qual : Str} {st : Stmt} {ps N : List Str} {k : Nat} {sp : Sp} {C : Addr} (F : Dm K C m qual st) (S : FnScope N ps (defScope st)) (len : ∀ vs H Q E, sp vs H Q E → vs.length = ps.length)
    (bd : ∀ (kV doc pm : Value) (an : Option Addr) (cdv ct : Value) (us : List Value), us.length = ps.length → bindArgs (PySem.W.fnOf m qual (defArgs st) (defBody st) (defScope st) .none kV doc pm an cdv ct) ⟨us, []⟩ = pure (ps.zip us))
    (hb : ∀ (f : Addr) (cdv : Value) (A : Around) (outer : List Env) (s : Shared) (H : Hp) (vs : List V) (Q : VK) (E : XK), Room k (A.deeper (envOfC qual (defScope st) s.heap.objs.size f cdv)) → sp vs H Q E →
      ∃ t, PSs (cxOf (L2N.CX P w) P w K mg base N qual (defScope st) f cdv A outer s H E) (defBody st) t ∧ t { nx := fun _ H' => Q .non H', rt := Q } (start N vs) H) : Mc P w K mg base (L2N.CX P w) (k + 1) C m ps sp := by
  obtain ⟨f, fd, hm, hi, F⟩ := F
  exact ⟨f, fd, okN F S len (hb f), hm, hi, F.kp, F.binds bd⟩
end
end U

set_option Elab.async false
set_option linter.all false
set_option autoImplicit false
set_option maxRecDepth 100000
set_option maxHeartbeats 4000000
/-! an exception that leaves a list comprehension -/
namespace U
open PySem PySem.Spec PyProof.Rows L2
section
variable {M : Model} {A : Around} {E : Value → Shared → Prop} {s : Shared} {env : Env}
/-- what is asked behind the block: at an error the block's own environment is known -/
def outX (M : Model) (A : Around) (E : Value → Shared → Prop) (Q : Value → Shared → Prop) (acc : Value) (ce : Env) (r : Result) (s' : Shared) : Prop :=
  match r with
  | .ok _ => ∃ m, s'.heap.Ns ce.locals m ∧ ∀ h', Heap.SameBut ce.locals s'.heap h' → Q acc { s' with heap := h' }
  | .error x => ∃ m, s'.heap.Ns ce.locals m ∧ ∀ h', Heap.SameBut ce.locals s'.heap h' → wpAny M A (passOn "comprehension.variables-let-go" x ce : Sem Value) (fun _ _ => False) E { s' with heap := h' }
theorem freeX {e : Expr} {scope : Scope} {pos : Pos} {newAcc first : Sem Value} {g : Comprehension} {gs : List Comprehension} {cl : List (Str × Addr)} {Q : Value → Shared → Prop}
    (cls : clausesOf e = g :: gs) (fold : ∀ x, foldedSetIterable g.iter env x = pure x) (clo : closureFor scope env = pure cl) (kd : scope.kind = .function) (nms : ∀ x ∈ scope.names, x.2 = .local → scope.names.lookup x.1 = some .local)
    (go : wpAny M A first (fun x z1 => wpAny M A (pyIter x) (fun it z2 => wpAny M A newAcc (fun acc z3 => wpAny M A (newFunctionEnv scope env.globals cl [] env.qual none .none (some env)) (fun ce z4 =>
      codeAny M A (.compStart e 0 it acc { ce with scope := relabel scope env }) (outX M A E Q acc { ce with scope := relabel scope env }) z4) E z3) E z2) E z1) E s) :
    wpAny M A (comprehension e scope env pos newAcc false first none) Q E s := by
  unfold comprehension
  rw [clo, cls]
  refine wpAny_bind (wpAny_mono go (fun x z1 k1 => wpAny_bind (wpAny_standAt (wpAny_bind (wpAny_of_eq (fold x) (wpAny_bind (wpAny_holding (wpAny_mono k1 (fun it z2 k2 =>
    wpAny_standIf (wpAny_bind (wpAny_mono k2 (fun acc z3 k3 => wpAny_bind (wpAny_pure (wpAny_bind (wpAny_mono k3 (fun ce z4 k4 => ?_) fun _ _ y => y)))) fun _ _ y => y)))
      fun _ _ y => y))))))) fun _ _ y => y)
  dsimp only
  have loc : ∀ x ∈ (scope.names.filter fun x => (x.2 == .local || x.2 == .cell) && x.1 != (".0" : Str)).reverse, x.2 = .local → Env.kindOf { ce with scope := relabel scope env } x.1 = some .local :=
    fun x hx hl => lookup_relabel_local (nms x (List.mem_filter.mp (List.mem_reverse.mp hx)).1 hl)
  refine wpAny_holding (wpAny_bind (wpAny_attempt (wpAny_holding (wpAny_run (codeAny_mono k4 fun r z5 out => ?_)))))
  cases r with
  | ok f =>
    obtain ⟨m, ns, q⟩ := out
    exact wpAny_bind (wpAny_holding (wpAny_comp_letGo (cenv := { ce with scope := relabel scope env }) kd _ z5 m loc ns fun h2 _ _ same => wpAny_pure (q h2 same)))
  | error x =>
    obtain ⟨m, ns, q⟩ := out
    exact wpAny_bind (wpAny_holding (wpAny_comp_letGo (cenv := { ce with scope := relabel scope env }) kd _ z5 m loc ns fun h2 _ _ same => wpAny_mono (q h2 same) (fun _ _ y => y.elim) fun _ _ y => y))
end
theorem hok_less {P : Program} {w : World} {H : Hp} {B G : Heap} {C : Addr} (ok : HOk P w H B) (hC : H C = none) (k : ∀ b, b ≠ C → ∀ o, B.get? b = some o → G.get? b = some o) : HOk P w H G := fun b o q =>
  (ok b o q).stay (fun c u hc r => k c (fun z => by
    subst z
    rcases hc with hc | hc
    · rw [hc, q] at hC; cases hC
    · rw [hc] at hC; cases hC) u r) (fun _ r => r) fun _ _ r => r
theorem fun_less {h1 h2 B G : Heap} : ∀ {l : List Env}, h1.FunFrames B l → (∀ b ∈ frs l, h2.get? b = h1.get? b ∧ G.get? b = none) → h2.FunFrames G l
  | [], _, _ => trivial
  | env :: l, h, k => by
    obtain ⟨kd, ⟨L, o, hf, _, ho, hd⟩, r⟩ := h
    obtain ⟨e1, e2⟩ := k L (List.mem_filterMap.mpr ⟨env, List.mem_cons_self, hf⟩)
    exact ⟨kd, ⟨L, o, hf, e2, e1.trans ho, hd⟩, fun_less r fun b hb => by
      obtain ⟨e, he, q⟩ := List.mem_filterMap.mp hb
      exact k b (List.mem_filterMap.mpr ⟨e, List.mem_cons_of_mem _ he, q⟩)⟩
section
variable {X : Cx} {pins : List (Addr × Obj)} {σ : L2.St} {W : WX} {E : XK}
/-- an exception out of a call in the block, let out of the comprehension -/
theorem block_err {H3 H9 : Hp} {s3 s9 s' : Shared} {fp : List Addr} {ce : Env} {u : Value} {Ex : Value → Shared → Prop} (I3 : Inv X pins σ H3 s3) (hs : X.stack = X.env :: X.outer) (hf : X.env.frame = some X.env.locals)
    (hfp : ∀ b ∈ fp, (b ∈ X.ex ∨ X.s_0.heap.objs.size ≤ b) ∧ b ≠ X.env.locals ∧ (∀ x c, X.env.cells.lookup x = some c → c ≠ b) ∧ ∀ p ∈ X.pn ++ pins, p.1 ≠ b)
    (hC : s3.heap.objs.size ≤ ce.locals) (hce : ce.frame = X.env.frame) (un : Un (frs X.stack) fp H3 H9 s3.heap s9.heap) (os9 : s9.os = s3.os) (nC : H9 ce.locals = none) (ns : ∃ m, s9.heap.Ns ce.locals m)
    (tk : L2.Takes X W) (hW : ∀ cls d H', E cls d H' → W cls d σ H') (c : L2.CX X.prog X.w X.stack H9 s9 E u s') :
    wpAny (model X.prog X.w) X.A (noteFrame u ce) (fun _ z => outX (model X.prog X.w) X.A X.xe (fun _ _ => True) .none ce (.error u) z) Ex s' := by
  obtain ⟨a, B, H', cls, d, rfl, fl, hok, ub, na, os, ag, hE⟩ := c
  have frOk : X.A.frames = some (X.env :: X.outer) := by rw [I3.ok.frames, hs]
  have same : noteFrame (.ref a) ce = noteFrame (.ref a) X.env := by
    unfold noteFrame PySem.frameOf
    rw [hce]
  have ltS : ∀ b ∈ frs X.stack, b < s3.heap.objs.size := fun b hb => by
    obtain ⟨_, o, ho, _⟩ := I3.stack.mem hb
    exact Heap.lt_size ho
  have nCf : ce.locals ∉ frs X.stack := fun z => absurd (ltS _ z) (Nat.not_lt.mpr hC)
  obtain ⟨m, o, es, ep, hoC, r⟩ := ns
  have bC : B.get? ce.locals = some o := ub.keep _ o hoC nC nCf
  have fl0 := fl
  rw [same]
  rw [hs] at fl
  refine HandSPX.looks_onZ Zc.steady frOk hf fl fun h1 held up1 => ?_
  refine ⟨m, ⟨o, es, ep, held.1 _ o bC, r⟩, fun h2 sb => ?_⟩
  obtain ⟨G1, gy, gn⟩ := restrict B fun b => decide (b ≠ ce.locals)
  have keep2 : ∀ b, b ≠ ce.locals → h2.get? b = h1.get? b := fun b hb => sb.2 b hb
  have gC : G1.get? ce.locals = none := gn _ (by simp)
  have gB : ∀ b, b ≠ ce.locals → G1.get? b = B.get? b := fun b hb => gy b (by simpa using hb)
  have ne1 : ∀ b v, G1.get? b = some v → b ≠ ce.locals := fun b v e z => by rw [z, gC] at e; cases e
  have st2 : G1.StaysIn h2 := fun b v e => (keep2 b (ne1 b v e)).trans (held.1 b v ((gB b (ne1 b v e)).symm.trans e))
  have ff2 : h2.FunFrames G1 (X.env :: X.outer) := fun_less held.2.2.1 fun b hb => by
    have hb' : b ∈ frs X.stack := by rw [hs]; exact hb
    have nb : b ≠ ce.locals := fun z => nCf (z ▸ hb')
    exact ⟨keep2 b nb, (gB b nb).trans (held.2.2.1.mem hb).1⟩
  have na1 : a ≠ ce.locals := fun z => by
    have y := held.2.1
    rw [z, bC] at y
    cases y
  obtain ⟨oe, vs, T, oT, ts, he, hz, hd, h1f, hnT, hTe, hT, hdT, h3f⟩ := held.2.2.2
  have nT : T ≠ ce.locals := fun z => by rw [z, bC] at hnT; cases hnT
  have he2 : h2.get? a = some oe := (keep2 a na1).trans he
  have held2 : HandSPX.HeldZ G1 (X.env :: X.outer) a (Zc cls d) X.env.locals h2 := ⟨st2, (gB a na1).trans held.2.1, ff2, oe, vs, T, oT, ts, he2, hz, hd, h1f, (gB T nT).trans hnT, hTe, (keep2 T nT).trans hT, hdT, h3f⟩
  unfold PySem.passOn
  refine wpAny_bind (wpAny_field he2 hd h1f ?_)
  rw [if_neg (show ¬ ((Value.ref T == Value.none) = true) from by simp)]
  have away : wpAny (model X.prog X.w) X.A (setFlight (.ref a) ce.frame) (fun _ t4 => wpAny (model X.prog X.w) X.A (throw (.ref a) : Sem Value) (fun _ _ => False) X.xe t4) X.xe { s' with heap := h2 } := by
    rw [hce, hf]
    refine HandSPX.setFlight_onZ held2 fun h3 held3 up3 => wpAny_throw (tk _ _ ?_)
    obtain ⟨G, g1, g2⟩ := restrict h3 fun b => (G1.get? b).isSome || decide (b ∈ frs X.stack)
    have gS : ∀ b v, G1.get? b = some v → G.get? b = some v := fun b v e => by
      rw [g1 b (by simp [e])]
      exact held3.1 b v e
    have gF : ∀ b, b ∈ frs X.stack → G.get? b = h3.get? b := fun b hb => g1 b (by simp [hb])
    have og : ∀ b v, G.get? b = some v → h3.get? b = some v ∧ ((G1.get? b).isSome = true ∨ b ∈ frs X.stack) := fun b v e => by
      cases q : ((G1.get? b).isSome || decide (b ∈ frs X.stack)) with
      | false => rw [g2 b q] at e; cases e
      | true =>
        rw [g1 b q] at e
        exact ⟨e, by simpa [Bool.or_eq_true] using q⟩
    have old : ∀ {b : Addr} {v : Obj}, s3.heap.get? b = some v → b ≠ ce.locals := fun {b v} e z => by
      have y := Heap.lt_size e
      rw [z] at y
      exact absurd y (Nat.not_lt.mpr hC)
    have toG : ∀ b v, b ≠ ce.locals → B.get? b = some v → G.get? b = some v := fun b v hb e => gS b v ((gB b hb).trans e)
    have frm : ∀ b v, s9.heap.get? b = some v → b ∈ frs X.stack → b ≠ ce.locals → ∃ sl, G.get? b = some { v with slots := sl } := fun b v e hb hn => by
      obtain ⟨sl1, q1⟩ := ub.slot b v e hb
      obtain ⟨_, w1, e1, nf1⟩ := fl0.2.2.1.mem hb
      rw [q1] at e1
      cases e1
      obtain ⟨sl2, q2⟩ := up1 b _ q1 nf1
      have q3 := (keep2 b hn).trans q2
      obtain ⟨sl3, q4⟩ := up3 b _ q3 nf1
      exact ⟨sl3, (gF b hb).trans q4⟩
    refine ⟨a, G1, { s3 with heap := G, gens := s'.gens, drawn := s'.drawn, toks := s'.toks }, pins, σ, H', cls, d, rfl, ?_, fun b v e hb => ?_, Heap.UpToSlots.of_keeps fun b v e => (og b v e).1, .inr (.inr (by rw [hs]; exact held3)), na, os.trans os9, ag, hW _ _ _ hE⟩
    · refine I3.call (ch := fp) ⟨fun b v e n hb hx => ?_, fun b v e n hb hx => ?_, fun b v e n hx => ?_, fun b v e hx => ?_, fun b xs e => ub.tups b xs (un.tups b xs e), fun b v y e => ub.frzs b v y (un.frzs b v y e), fun b ps e => ?_⟩ (hok_less hok (ub.free _ o hoC nC) fun b hb v e => toG b v hb e) ag hfp
      · exact toG b v (old e) (ub.keep b v (un.keep b v e n hb hx) (un.free b v e n hx) hb)
      · obtain ⟨sl, q⟩ := un.slot b v e n hb hx
        obtain ⟨sl2, q2⟩ := frm b _ q hb (old e)
        exact ⟨sl2, q2⟩
      · obtain ⟨sl, q⟩ := un.any e n hx
        exact ub.free b _ q (un.free b v e n hx)
      · obtain ⟨v2, q⟩ := un.there b v e hx
        by_cases hb : b ∈ frs X.stack
        · obtain ⟨sl, q2⟩ := frm b v2 q hb (old e)
          exact ⟨_, q2⟩
        · obtain ⟨v3, q3⟩ := ub.there b v2 q hb
          exact ⟨v3, toG b v3 (old e) q3⟩
      · obtain ⟨m1, e1⟩ := un.tbls b ps e
        obtain ⟨m2, e2⟩ := ub.tbls b _ e1
        exact ⟨m1 ++ m2, by rw [e2, Array.append_assoc]⟩
    · obtain ⟨e', h⟩ := og b v e
      rcases h with h | h
      · obtain ⟨v2, q⟩ := Option.isSome_iff_exists.mp h
        have z := held3.1 b v2 q
        rw [e'] at z; cases z
        exact q
      · exact absurd h hb
  first
    | exact wpAny_bind (wpAny_pure (wpAny_bind away))
    | exact wpAny_bind away
theorem thnE {α : Type} {t : Sem α} {Q Q' : α → Shared → Prop} {M : Model} {A : Around} {E : Value → Shared → Prop} {s : Shared} (h : wpAny M A t Q (fun _ _ => False) s) (k : ∀ a s, Q a s → Q' a s) : wpAny M A t Q' E s := wpAny_mono h k fun _ _ z => z.elim
end
section
variable {X : Cx}
theorem lcx_core {pins : List (Addr × Obj)} {s : Shared} {σ : L2.St} {H : Hp} {Q : VK} {elt tg iter : Expr} {ifs : List Expr} {scope : Scope} {own : List (Str × Nat)} {pos pos' : Pos} {wi : TI} {g : TG} {tt : TT} {te : TE} {Ec : XK} {Wo : WX} {Qf : Value → Shared → Prop}
    (hc : X.calm = true) (hN : X.N.Nodup) (I0 : Inv X pins σ H s) (hi : PI X tg iter wi) (ok : BlkOk X.N X.env.scope scope own)
    (hg : ∀ (s : Shared) (H : Hp) (C : Addr) (cl : List (Str × Addr)) (fp : List Addr), PG (X.blk s H scope (compEnvC scope cl C X.env) fp) tg g) (ht : ∀ (s : Shared) (H : Hp) (C : Addr) (cl : List (Str × Addr)) (fp : List Addr), PTs (X.blk s H scope (compEnvC scope cl C X.env) fp) ifs tt)
    (he : ∀ (s : Shared) (H : Hp) (C : Addr) (cl : List (Str × Addr)) (fp : List Addr) (xe : Value → Shared → Prop), Passes (L2.CX X.prog X.w) ((X.blk s H scope (compEnvC scope cl C X.env) fp).wish xe) Ec → PE ((X.blk s H scope (compEnvC scope cl C X.env) fp).wish xe) elt te)
    (st0 : X.stack = X.env :: X.outer) (fr0 : X.env.frame = some X.env.locals) (tk : L2.Takes X Wo) (hW : ∀ cls d H', Ec cls d H' → Wo cls d σ H') (hs : ∀ x, foldedSetIterable iter X.env x = pure x)
    (h : tLc wi g tt te (own.map (·.2)) σ H Q)
    (hRR : ∀ D C zq m H', Inv X pins σ H' zq → Q (.ref D) H' → zq.heap.Ns C m → FpOk X pins H' C → ∃ m2, zq.heap.Ns C m2 ∧ ∀ h2, Heap.SameBut C zq.heap h2 → Qf (.ref D) { zq with heap := h2 }) :
    wpAny (model X.prog X.w) X.A (comprehension (.ListComp elt [⟨tg, iter, ifs, 0⟩] scope pos) scope X.env pos' (newList []) false (eval iter X.env) none) Qf X.xe s := by
  have free0 : ∀ y ∈ scope.names, y.2 = .free → ∃ c, X.env.cells.lookup y.1 = some c := fun y hy e => by
    rcases ok.free y hy e with k | k
    · exact I0.ok.has _ (.inl k)
    · exact I0.ok.has _ (.inr k)
  refine freeX rfl hs (closure_ok free0) ok.kind (fun y hy e => by rw [ok.uniq y hy, e])
    (thn (hi.run pins s σ H _ I0 h) fun xv s1 gx => thn gx fun itv z2 h2 => ?_)
  obtain ⟨it, fp, tn, Jt, H2, e, J2, T, st2, f2, q⟩ := h2
  subst e
  refine wpAny_newObj_type (newEnv_comp ?_) (by show 0 ≤ sizeLine; decide)
  generalize eD : z2.heap.objs.size = D
  have nD : H2 D = none := J2.hok.fresh (Nat.le_of_eq eD)
  obtain ⟨Wt, ⟨m0, w0⟩, move⟩ := q D nD
  -- the new list
  generalize ez3 : ({ z2 with heap := z2.heap.push { cls := .type "list", data := .seq ([] : List Value).toArray } } : Shared) = z3
  have J3 : Inv X pins σ (upd H2 D (.lst [])) z3 := by
    rw [← ez3]
    refine J2.laid (t' := z2.toks) (fun b o e => Heap.get?_push_of_some _ e) (Nat.le_of_eq eD) ⟨Nat.zero_le _, [], 0, .nil, ?_⟩
    rw [← eD]
    exact Heap.get?_push_size _ rfl
  have e3 : z3.heap = z2.heap.push { cls := .type "list", data := .seq ([] : List Value).toArray } := by rw [← ez3]
  have szf : ∀ b ∈ fp, b < z2.heap.objs.size := fun b hb => by
    obtain ⟨o, e, _⟩ := T.obj _ _ st2 b hb
    exact Heap.lt_size e
  have fp3 : ∀ b ∈ fp, FpOk X pins (upd H2 D (.lst [])) b ∧ b < z3.heap.objs.size := fun b hb => by
    have lt0 := szf b hb
    refine ⟨⟨?_, (f2 b hb).2⟩, by rw [e3, Heap.size_push]; exact Nat.lt_succ_of_lt lt0⟩
    rw [upd_ne (by rw [← eD]; exact Nat.ne_of_lt lt0)]
    exact (f2 b hb).1
  have st3 : tn 0 z3.heap := T.keep _ _ _ st2 fun b _ o e => by rw [e3]; exact Heap.get?_push_of_some _ e
  have J4 := block_start J3 ok hN fp3
  have pG := hg z3 (upd H2 D (.lst [])) z3.heap.objs.size (cellsFrom (z3.heap.objs.size + 1) scope.names (cloFrom X.env.cells scope.names [])) fp
  have pT := ht z3 (upd H2 D (.lst [])) z3.heap.objs.size (cellsFrom (z3.heap.objs.size + 1) scope.names (cloFrom X.env.cells scope.names [])) fp
  have pE := he z3 (upd H2 D (.lst [])) z3.heap.objs.size (cellsFrom (z3.heap.objs.size + 1) scope.names (cloFrom X.env.cells scope.names [])) fp
  show codeAny _ _ (.compStart (.ListComp elt [⟨tg, iter, ifs, 0⟩] scope pos) 0 (.ref it) (.ref D) (compEnvC scope (cellsFrom (z3.heap.objs.size + 1) scope.names (cloFrom X.env.cells scope.names [])) z3.heap.objs.size X.env)) (outX (model X.prog X.w) X.A X.xe Qf (.ref D) (compEnvC scope (cellsFrom (z3.heap.objs.size + 1) scope.names (cloFrom X.env.cells scope.names [])) z3.heap.objs.size X.env)) { z3 with heap := pushCells (z3.heap.push { cls := .type "dict", data := .dict #[] }) scope.names }
  have nF : ∀ b ∈ fp, (upd H2 D (.lst [])) b = none := fun b hb => (fp3 b hb).1.1
  generalize ece : compEnvC scope (cellsFrom (z3.heap.objs.size + 1) scope.names (cloFrom X.env.cells scope.names [])) z3.heap.objs.size X.env = ce at J4 pG pT pE ⊢
  have ceL : ce.locals = z3.heap.objs.size := by subst ece; rfl
  generalize eH3 : upd H2 D (.lst []) = H3 at J3 J4 pG pT pE w0 nF fp3
  generalize ez4 : ({ z3 with heap := pushCells (z3.heap.push { cls := .type "dict", data := .dict #[] }) scope.names } : Shared) = z4 at J4 ⊢
  have st4 : tn 0 z4.heap := T.keep _ _ _ st3 fun b _ o e => by rw [← ez4]; exact pushCells_keeps _ _ _ _ (Heap.get?_push_of_some _ e)
  have stk : ∀ {σ' : L2.St} {H' : Hp} {zq : Shared}, Inv (X.blk z3 H3 scope ce fp) [] σ' H' zq → (∀ b ∈ fp, H' b = none) → ∀ b ∈ fp, FpOk (X.blk z3 H3 scope ce fp) [] H' b := fun {σ' H' zq} Jq nsm b hb =>
    ⟨nsm b hb, (Jq.ok.exf b hb).1, Jq.ok.exfs b hb, .inl hb, fun x c e => (Jq.ok.exf b hb).2 x c e, fun p hp => absurd (show p ∈ ([] : List (Addr × Obj)) ++ [] from hp) (by simp)⟩
  have pE2 := pE (fun u zq => ∃ (qs : List (Addr × Obj)) (σ9 : L2.St) (H9 : Hp) (z9 : Shared), Inv (X.blk z3 H3 scope ce fp) qs σ9 H9 z9 ∧ L2.CX X.prog X.w X.stack H9 z9 Ec u zq) (fun qs σ9 H9 z9 e zq I c => ⟨qs, σ9, H9, z9, I.unwish, c⟩)
  have back : ∀ b ∈ fp, (b ∈ X.ex ∨ X.s_0.heap.objs.size ≤ b) ∧ b ≠ X.env.locals ∧ (∀ x c, X.env.cells.lookup x = some c → c ≠ b) ∧ ∀ p ∈ X.pn ++ pins, p.1 ≠ b := fun b hb => ⟨(fp3 b hb).1.2.2.2.1, (fp3 b hb).1.2.1, (fp3 b hb).1.2.2.2.2.1, (fp3 b hb).1.2.2.2.2.2⟩
  have ceF : ce.frame = X.env.frame := by subst ece; rfl
  have turns : codeAny (model X.prog X.w) X.A (.compLoop (.ListComp elt [⟨tg, iter, ifs, 0⟩] scope pos) 0 (.ref it) (.ref D) ce) (outX (model X.prog X.w) X.A X.xe Qf (.ref D) ce) z4 := by
    refine compLoop_any (fun n zq => ∃ i H', Inv (X.blk z3 H3 scope ce fp) [] (wipe σ (own.map (·.2))) H' zq ∧ tn i zq.heap ∧ (∀ b ∈ fp, H' b = none) ∧ Wt i n H') ?_ m0 ⟨0, H3, J4, st4, nF, w0⟩
    rintro n z5 ⟨i, H5, J5, st5, n5, w5⟩
    rcases move i n H5 w5 with ⟨halt, qz⟩ | ⟨go, Nx, nxt, one⟩
    · have tdone := T.done (X.blk z3 H3 scope ce fp) rfl rfl rfl hc i [] z5 _ H5 (fun _ _ => False) J5 (stk J5 n5) st5 halt
      refine thnE tdone fun r z6 ⟨er, J6⟩ => ?_
      subst er
      -- back in the def's context
      have J7 : Inv X pins σ H5 z6 := J3.call' (ch := fp) J6.os J6.base J6.hok J6.bare back
      have nC : H5 z3.heap.objs.size = none := by
        have z : H5 ce.locals = none := J6.free
        rw [ceL] at z
        exact z
      obtain ⟨m, nsm, _⟩ := J6.loc
      have nsm : z6.heap.Ns ce.locals m := nsm
      exact hRR D ce.locals z6 m H5 J7 qz nsm (by rw [ceL]; exact J3.fpOk (Nat.le_refl _) nC)
    · have titem := T.item (X.blk z3 H3 scope ce fp) rfl rfl rfl hc i [] z5 _ H5 (fun _ _ => False) J5 (stk J5 n5) st5 go
      refine thnE titem fun r z6 ⟨u, er, h6⟩ => ?_
      subst er
      refine thnE h6 fun _ z7 ⟨x, H7, J7, r7, y7, st7, n7⟩ => ?_
      have J7p := J7.pinned (stk J7 n7) (T.obj _ _ st7)
      refine thnE (pG.run _ z7 _ H7 x u _ J7p r7 (one x H7 y7)) fun _ z8 ⟨σ8, H8, J8, w8, q8⟩ => ?_
      refine thnE (pT.run _ z8 σ8 H8 _ J8 q8) fun b z9 ⟨H9, J9, q9⟩ => ?_
      -- the turn's end
      have turnEnd : ∀ {zq : Shared} {H' : Hp}, Inv (X.blk z3 H3 scope ce fp) ([] ++ pinsAt fp z7.heap) σ8 H' zq → Nx H' → ∃ m, m < n ∧ ∃ i H', Inv (X.blk z3 H3 scope ce fp) [] (wipe σ (own.map (·.2))) H' zq ∧ tn i zq.heap ∧ (∀ b ∈ fp, H' b = none) ∧ Wt i m H' := fun {zq H'} Jq nx => by
        obtain ⟨m1, lt1, w'⟩ := nxt H' nx
        have pinq : ∀ b ∈ fp, ∀ o, z7.heap.get? b = some o → zq.heap.get? b = some o ∧ H' b = none := fun b hb o e =>
          let z := Jq.pin (b, o) (List.mem_append_right _ (List.mem_append_right _ (mem_pinsAt hb e)))
          ⟨z.1, z.2.1⟩
        have hlen : (wipe σ (own.map (·.2))).length = σ8.length := by rw [← w8, wipe_length]
        refine ⟨m1, lt1, i + 1, H', (Jq.unpinned (pins := [])).weak hlen (fun j v e => ?_), T.keep _ _ _ st7 fun b hb o e => (pinq b hb o e).1, fun b hb => ?_, w'⟩
        · rw [← w8] at e
          exact (wipe_some e).1
        · obtain ⟨o, e, _⟩ := T.obj _ _ st7 b hb
          exact (pinq b hb o e).2
      cases b with
      | false =>
        simp only [Bool.false_eq_true, if_false] at q9 ⊢
        exact turnEnd J9 q9
      | true =>
        simp only [if_true] at q9 ⊢
        refine wpAny_mono (pE2.run _ z9 σ8 H9 _ (J9.wish _) q9) (fun y z10 ⟨yv, H10, J10, r10, acc, eD10, lz10, nx⟩ => ?_) (fun u zq ⟨qs, σ9, Hx, zx, Ix, c⟩ => ?_)
        · exact app_ok (X := X.blk z3 H3 scope ce fp) J10.unwish eD10 lz10 r10 fun z11 J11 => turnEnd J11 nx
        · obtain ⟨mx, nx, _⟩ := Ix.loc
          exact block_err J3 st0 fr0 back (by rw [ceL]; exact Nat.le_refl _) ceF Ix.base Ix.os Ix.free ⟨mx, nx⟩ tk hW c
  exact codeAny_compStart_list turns (T.self X.A 0 _ _ _ st4 turns)
/-- [f(..) for .. in ..], f may raise -/
theorem pe_lcX {elt tg iter : Expr} {ifs : List Expr} {scope : Scope} {own : List (Str × Nat)} {pos : Pos} {wi : TI} {g : TG} {tt : TT} {te : TE} {Ec : XK} (hc : X.calm = true) (hN : X.N.Nodup) (hi : PI X tg iter wi) (ok : BlkOk X.N X.env.scope scope own)
    (st0 : X.stack = X.env :: X.outer) (fr0 : X.env.frame = some X.env.locals) (tk : L2.Takes X fun cls d _ H => Ec cls d H)
    (hg : ∀ (s : Shared) (H : Hp) (C : Addr) (cl : List (Str × Addr)) (fp : List Addr), PG (X.blk s H scope (compEnvC scope cl C X.env) fp) tg g) (ht : ∀ (s : Shared) (H : Hp) (C : Addr) (cl : List (Str × Addr)) (fp : List Addr), PTs (X.blk s H scope (compEnvC scope cl C X.env) fp) ifs tt)
    (he : ∀ (s : Shared) (H : Hp) (C : Addr) (cl : List (Str × Addr)) (fp : List Addr) (xe : Value → Shared → Prop), Passes (L2.CX X.prog X.w) ((X.blk s H scope (compEnvC scope cl C X.env) fp).wish xe) Ec → PE ((X.blk s H scope (compEnvC scope cl C X.env) fp).wish xe) elt te) (fold : ∀ x, foldedSetIterable iter X.env x = pure x := by intro _; rfl) :
    PE X (.ListComp elt [⟨tg, iter, ifs, 0⟩] scope pos) (tLc wi g tt te (own.map (·.2))) := by
  refine ⟨fun pins s σ H Q I h => ?_⟩
  rw [eval_ListComp]
  refine lcx_core hc hN I hi ok hg ht he st0 fr0 tk (fun _ _ _ z => z) fold h fun D C zq m H' J q ns f => ⟨m, ns, fun h2 same => ?_⟩
  obtain ⟨f0, f1, f2, f3, f4, f5⟩ := f
  exact ⟨.ref D, H', J.turned (t' := zq.toks) (fun b o hb e => (same.2 b hb).trans e) f0 f1 f3 f4 f5, rfl, q⟩
end
end U

set_option Elab.async false
set_option linter.all false
set_option autoImplicit false
set_option maxRecDepth 100000
set_option maxHeartbeats 4000000
namespace U
open PySem PySem.Spec PyProof.Rows L2
/-! ## a list comprehension over the signs of a text -/
section
variable {K : PySem.W.Frag} {g : TG} {tt : TT} {te : TE} {vs : List Nat} {σ : L2.St} {H : Hp} {Q : VK}
theorem l_lcS {a : Str} (Pv : Addr → Nat → Hp → Prop) (h0 : ∀ D H', H D = none → Kp [] H H' → H' D = some (.lst []) → Pv D 0 H')
    (hs : ∀ D i c H', H D = none → a.cps.toList[i]? = some c → Pv D i H' → g (.str ⟨#[c]⟩) (wipe σ vs) H' fun σ2 H2 => EndQ (wipe σ2 vs) (wipe σ vs) (tt σ2 H2 fun b H3 => Br b (fun H4 => te σ2 H4 fun y H5 => AppE D y H5 (Pv D (i + 1))) (Pv D (i + 1)) H3))
    (hd : ∀ D H', H D = none → Pv D a.cps.toList.length H' → Q (.ref D) H') : LcQ (Its a) g tt te vs σ Q H := fun D hD => by
  have hsz : a.cps.toList.length = a.cps.size := Array.length_toList
  refine ⟨fun i m H' => m = a.cps.toList.length - i ∧ i ≤ a.cps.toList.length ∧ Pv D i H', ⟨_, rfl, Nat.zero_le _, h0 D _ hD (Kp.new hD) upd_same⟩, ?_⟩
  rintro i m H' ⟨rfl, hi, p⟩
  by_cases hlt : i < a.cps.toList.length
  · refine .inr ⟨(by show i < a.cps.size; omega), Pv D (i + 1), fun H2 p' => ⟨a.cps.toList.length - (i + 1), by omega, rfl, hlt, p'⟩, ?_⟩
    rintro x H2 ⟨rfl, c, hc, rfl⟩
    exact hs D i c _ hD (by rw [← hc, Array.getElem?_toList]) p
  · obtain rfl : i = a.cps.toList.length := by omega
    exact .inl ⟨by show a.cps.size ≤ _; omega, hd D H' hD p⟩
end
section
variable {K : PySem.W.Frag} {B : Bs} {H H' : Hp} {Z Z' : List Addr} {L : List Ent} {M : List (List V × List PyData)} {Q : VK} {σ : L2.St}
variable {g : TG} {tt : TT} {te : TE} {ns : List Nat}
theorem h_lcS (a : List Nat) (R : Nat → List PyData → Prop) (h : Hs K B Z H L M) (r0 : R 0 [])
    (turn : ∀ D i c acc Z' H', a[i]? = some c → R i acc → acc.length ≤ i → Z ⊆ Z' → Hs K B Z' H' (.dl K D acc true :: L) M → g (.str (SX.S [c])) (wipe σ ns) H' fun σ2 H2 => EndQ (wipe σ2 ns) (wipe σ ns) (tt σ2 H2 fun b H3 => Br b (fun H4 => te σ2 H4 fun y H5 => AppE D y H5 (LcP K B Z L M R D (i + 1))) (LcP K B Z L M R D (i + 1)) H3))
    (done : ∀ D acc Z' H', R a.length acc → acc.length ≤ a.length → Z ⊆ Z' → Hs K B Z' H' (.dl K D acc true :: L) M → Q (.ref D) H') : LcQ (Its (SX.S a)) g tt te ns σ Q H :=
  l_lcS (a := SX.S a) (LcP K B Z L M R) (fun D H' hD hk ho => ⟨[], Z, fun _ z => z, r0, Nat.le_refl _, h.newDl hk hD ⟨[], ho, .nil⟩⟩)
    (fun D i c H' hD hi ⟨acc, Z', sz, r, hacc, hs⟩ => turn D i c acc Z' H' hi r hacc sz hs) (fun D H' hD ⟨acc, Z', sz, r, hacc, hs⟩ => done D acc Z' H' r hacc sz hs)
end
theorem br_dt {c : Prop} [Decidable c] {A B : Hp → Prop} {H : Hp} (hc : c) (h : A H) : Br (decide c) A B H := br_yes (decide_eq_true hc) h
theorem br_df {c : Prop} [Decidable c] {A B : Hp → Prop} {H : Hp} (hc : ¬ c) (h : B H) : Br (decide c) A B H := br_no (decide_eq_false hc) h
end U

set_option Elab.async false
set_option linter.all false
set_option autoImplicit false
set_option maxRecDepth 100000
set_option maxHeartbeats 4000000
/-! # sets of tuples that are keys of any depth (texts within) -/
namespace N17
open PySem PySem.Spec PyProof.Rows L2
/-- a row of the set: where its tuple stands, what it says -/
abbrev Row := Addr × NestedKey
def KAt (h : Heap) (r : Row) : Prop := NestedIs h r.2 (.ref r.1) ∧ r.2.depth ≤ 8
section
variable {P : Program} {w : World} {A : Around} {E : Value → Shared → Prop} {s : Shared}
/-! ### small questions -/
mutual
theorem notCls : ∀ (k : NestedKey) (v : Value) (n : Nat) (Q : Bool → Shared → Prop), NestedIs s.heap k v → k.depth ≤ n → Q false s → wpAny (model P w) A (ofAClassStatement n v) Q E s
  | .none, _, n, Q, x, _, q => by cases x; cases n <;> exact wpAny_pure q
  | .num i, _, n, Q, x, _, q => by cases x <;> (cases n <;> exact wpAny_pure q)
  | .text z, _, n, Q, x, _, q => by cases x; cases n <;> exact wpAny_pure q
  | .tup ks, _, 0, Q, x, d, q => absurd d (by rw [NestedKey.depth]; omega)
  | .tup ks, _, n + 1, Q, x, d, q => by
    have d' : NestedKey.depthAll ks ≤ n := by rw [NestedKey.depth] at d; omega
    cases x with
    | @tup a o vs m _ ho hc hd hi =>
      unfold ofAClassStatement
      refine wpAny_bind (wpAny_typeOf ⟨o, ho, hc⟩ ?_)
      simp only [show (("tuple" : String) == "tuple") = true by decide, if_true, Bool.not_true, Bool.false_eq_true, if_false]
      refine wpAny_bind (wpAny_pure ?_)
      simp only [Bool.not_true, Bool.false_eq_true, if_false]
      refine wpAny_bind (wpAny_seqItems ho hd ?_)
      dsimp only
      refine wpAny_bind ?_
      rw [← Array.forIn_toList]
      refine wpAny_forIn_list _ (fun left r s' => r.1 = none ∧ s' = s ∧ ∀ u ∈ left, ∀ Q' : Bool → Shared → Prop, Q' false s → wpAny (model P w) A (ofAClassStatement n u) Q' E s) _ ?_ ?_ _ _ ⟨rfl, rfl, fun u hu Q' => notClsAll ks _ n Q' hi d' u hu⟩
      · rintro u left r s' ⟨_, rfl, all⟩
        refine wpAny_bind (all u List.mem_cons_self _ ?_)
        simp only [Bool.false_eq_true, if_false]
        exact wpAny_pure ⟨rfl, rfl, fun y hy => all y (List.mem_cons_of_mem _ hy)⟩
      · rintro ⟨r1, r2⟩ s' ⟨e, rfl, _⟩
        dsimp only at e
        subst e
        exact wpAny_pure q
theorem notClsAll : ∀ (ks : List NestedKey) (vs : List Value) (n : Nat) (Q : Bool → Shared → Prop), NestedAll s.heap ks vs → NestedKey.depthAll ks ≤ n → ∀ v ∈ vs, Q false s → wpAny (model P w) A (ofAClassStatement n v) Q E s
  | [], _, n, Q, x, _, v, hv, q => by cases x; cases hv
  | k :: ks, _, n, Q, x, d, v, hv, q => by
    rw [NestedKey.depthAll] at d
    cases x with
    | cons x1 x2 =>
      rcases List.mem_cons.mp hv with e | hv
      · rw [e]; exact notCls k _ n Q x1 (by omega) q
      · exact notClsAll ks _ n Q x2 (by omega) v hv q
end
mutual
theorem byVal : ∀ (k : NestedKey) (v : Value) (n : Nat) (Q : Bool → Shared → Prop), NestedIs s.heap k v → (∀ b, Q b s) → wpAny (model P w) A (hashByValue n v) Q E s
  | .none, _, n, Q, x, q => by cases x; cases n <;> exact wpAny_pure (q _)
  | .num i, _, n, Q, x, q => by cases x <;> (cases n <;> exact wpAny_pure (q _))
  | .text z, _, n, Q, x, q => by cases x; cases n <;> exact wpAny_pure (q _)
  | .tup ks, _, 0, Q, x, q => by cases x; exact wpAny_pure (q _)
  | .tup ks, _, n + 1, Q, x, q => by
    cases x with
    | @tup a o vs m _ ho hc hd hi =>
      unfold hashByValue
      refine wpAny_bind (wpAny_specialOf ⟨o, ho, hc⟩ F.slot_tuple_hash.lookup ?_)
      show wpAny _ _ (seqItems? (.ref a) >>= _) _ _ s
      refine wpAny_bind (wpAny_seqItems ho hd ?_)
      dsimp only
      refine wpAny_bind ?_
      rw [← Array.forIn_toList]
      refine wpAny_forIn_list _ (fun left r s' => s' = s ∧ ∀ u ∈ left, ∀ Q' : Bool → Shared → Prop, (∀ b, Q' b s) → wpAny (model P w) A (hashByValue n u) Q' E s) _ ?_ ?_ _ _ ⟨rfl, fun u hu Q' => byValAll ks _ n Q' hi u hu⟩
      · rintro u left r s' ⟨rfl, all⟩
        refine wpAny_bind (all u List.mem_cons_self _ fun b => ?_)
        cases b
        · exact wpAny_pure (wpAny_pure (q _))
        · exact wpAny_pure ⟨rfl, fun y hy => all y (List.mem_cons_of_mem _ hy)⟩
      · rintro ⟨r1, r2⟩ s' ⟨rfl, _⟩
        cases r1 <;> exact wpAny_pure (q _)
theorem byValAll : ∀ (ks : List NestedKey) (vs : List Value) (n : Nat) (Q : Bool → Shared → Prop), NestedAll s.heap ks vs → ∀ v ∈ vs, (∀ b, Q b s) → wpAny (model P w) A (hashByValue n v) Q E s
  | [], _, n, Q, x, v, hv, q => by cases x; cases hv
  | k :: ks, _, n, Q, x, v, hv, q => by
    cases x with
    | cons x1 x2 =>
      rcases List.mem_cons.mp hv with e | hv
      · rw [e]; exact byVal k _ n Q x1 q
      · exact byValAll ks _ n Q x2 v hv q
end
end
section
variable {P : Program} {w : World} {A : Around} {E : Value → Shared → Prop} {s : Shared}
theorem unseen {r : Row} {Q : Bool → Shared → Prop} (hr : KAt s.heap r) {ys : List Value} (hy : ∀ y ∈ ys, ∃ r' : Row, y = .ref r'.1 ∧ KAt s.heap r') (q : Q false s) : wpAny (model P w) A (searchCouldBeSeen (.ref r.1) ys) Q E s := by
  unfold searchCouldBeSeen
  refine wpAny_bind ?_
  refine wpAny_forIn_list _ (fun left z s' => z.1 = none ∧ s' = s ∧ ∀ y ∈ left, ∃ r' : Row, y = .ref r'.1 ∧ KAt s.heap r') _ ?_ ?_ _ _ ⟨rfl, rfl, hy⟩
  · rintro y left z s' ⟨_, rfl, all⟩
    obtain ⟨r', rfl, hr'⟩ := all y List.mem_cons_self
    have more : ∀ y ∈ left, ∃ r' : Row, y = Value.ref r'.1 ∧ KAt s'.heap r' := fun y hm => all y (List.mem_cons_of_mem _ hm)
    dsimp only
    by_cases same : (r.1 == r'.1 || (carriedByValue (.ref r.1) && carriedByValue (.ref r'.1))) = true
    · exact wp_if_pos same (wpAny_pure ⟨rfl, rfl, more⟩)
    · refine wp_if_neg same ?_
      refine wpAny_bind (quiet_key r.2 _ 8 s' hr.1 hr.2 A E _ ?_)
      simp only [Bool.not_true, Bool.false_eq_true, if_false]
      refine wpAny_bind (quiet_key r'.2 _ 8 s' hr'.1 hr'.2 A E _ ?_)
      simp only [Bool.not_true, Bool.false_eq_true, if_false]
      refine wpAny_bind (notCls r.2 _ 8 _ hr.1 hr.2 ?_)
      simp only [Bool.false_eq_true, if_false]
      refine wpAny_bind (notCls r'.2 _ 8 _ hr'.1 hr'.2 ?_)
      simp only [Bool.false_eq_true, if_false]
      exact wpAny_pure ⟨rfl, rfl, more⟩
  · rintro ⟨z1, z2⟩ s' ⟨e, rfl, _⟩
    dsimp only at e
    subst e
    exact wpAny_pure q
theorem eqKeys {r r' : Row} {Q : Bool → Shared → Prop} (hu : A.units + 8 < cLine) (hr : KAt s.heap r) (hr' : KAt s.heap r') (q : Q (decide (r.2 = r'.2)) s) : wpAny (model P w) A (eqBool (.ref r.1) (.ref r'.1)) Q E s :=
  (nestedKind P w).eqBool (x := r.2) (y := r'.2) hu hr hr' q
/-! ### the set -/
abbrev kh (w : World) (r : Row) : Int := r.2.hash w
def rws (w : World) (L : List Row) : List (Int × Value) := L.map fun r => (kh w r, .ref r.1)
structure SN (w : World) (h : Heap) (a : Addr) (L : List Row) (es : Array (Int × Value)) (ep : Nat) (t : SetTable) : Prop where
  obj : ∃ o, h.get? a = some o ∧ o.ExactSet ∧ o.data = .set es ep t
  lines : es.toList = rws w L
  table : TabOk t (L.map (kh w))
  apart : (L.map (·.2)).Nodup
  keys : ∀ r ∈ L, KAt h r
  order : w.params.followText "set-order" = true ∨ t.led = true
  space : L.length * 5 < t.mask * 3
  bound : L.length ≤ 76
theorem rws_len {w : World} {es : Array (Int × Value)} {L : List Row} (e : es.toList = rws w L) : es.size = L.length := by
  have z := congrArg List.length e
  rwa [rws, Array.length_toList, List.length_map] at z
theorem rws_at {w : World} {es : Array (Int × Value)} {L : List Row} (e : es.toList = rws w L) {i : Nat} {r : Row} (h : L[i]? = some r) : es[i]? = some (kh w r, .ref r.1) := by
  rw [← Array.getElem?_toList, e, rws, List.getElem?_map, h]
  rfl
variable {a : Addr} {L : List Row} {es : Array (Int × Value)} {ep : Nat} {t : SetTable}
theorem SN.fit (R : SN w s.heap a L es ep t) : t.fits es.size = true := by
  have z1 := R.table.sz
  have z2 := rws_len R.lines
  have z3 := R.space
  rw [List.length_map] at z1
  unfold SetTable.fits SetTable.fill
  rw [R.table.dm, Bool.and_eq_true, beq_iff_eq, decide_eq_true_eq]
  show t.place.size = es.size ∧ t.place.size + 0 ≤ t.mask
  omega
theorem SN.stays (R : SN w s.heap a L es ep t) : ¬ t.gaveWay = true := by
  unfold SetTable.gaveWay
  rw [mask_odd R.table.mok]
  decide
abbrev pr0 (t : SetTable) (v : Int) : SetTable.Probe := runAt t.mask (SetTable.bits v % (t.mask + 1)) (SetTable.bits v)
theorem nth_clean (m : Nat) : ∀ (n : Nat) (p : SetTable.Probe), p.dummy = none → (nth m p n).dummy = none
  | 0, _, h => h
  | n + 1, p, h => nth_clean m n (adv m p) (by unfold adv; split <;> exact h)
theorem pr_add (t : SetTable) (v : Int) (c q : Nat) : nth t.mask (nth t.mask (pr0 t v) c) q = nth t.mask (pr0 t v) (c + q) := (nth_add t.mask c (pr0 t v) q).symm
theorem pr_way (t : SetTable) (v : Int) (c q : Nat) : (nth t.mask (nth t.mask (pr0 t v) c) q).j = way t.mask v (c + q) := congrArg SetTable.Probe.j (pr_add t v c q)
theorem seek (R : SN w s.heap a L es ep t) {x : Row} (hx : KAt s.heap x) (hu : A.units + 8 < cLine) {K : Nat} (hKf : K < 10 * SetTable.turns t.mask)
    (hK : way t.mask (kh w x) K ∉ t.place.toList) (hKb : ∀ c, c < K → way t.mask (kh w x) c ∈ t.place.toList) {Q : SetFound → Shared → Prop}
    (yes : x.2 ∈ L.map (·.2) → Q (.there none) s) (no : x.2 ∉ L.map (·.2) → Q (.free (way t.mask (kh w x) K) false) s) :
    ∀ (f c : Nat) (from_ : Option SetTable.Probe), from_.getD (t.probeStart (kh w x)) = nth t.mask (pr0 t (kh w x)) c → c ≤ K → K - c < f →
      (∀ (i : Nat) r, L[i]? = some r → r.2 = x.2 → ∃ c', c ≤ c' ∧ c' < K ∧ t.place.toList[i]? = some (way t.mask (kh w x) c')) →
      wpAny (model P w) A (setSearchFrom a (.ref x.1) (kh w x) true f from_) Q E s := by
  obtain ⟨o, ho, hex, hd⟩ := R.obj
  have hat : ∀ (i : Nat) r, L[i]? = some r → (es[i]?.map (·.1)).getD 0 = kh w r := fun i r h => by rw [rws_at R.lines h]; rfl
  intro f
  induction f with
  | zero => intro c _ _ _ z; omega
  | succ f ih =>
    intro c from_ hst hc hf ahead
    rw [setSearchFrom_succ]
    refine wpAny_bind (wpAny_setState_of ho hd R.fit ?_)
    dsimp only
    refine wp_if_neg R.stays ?_
    refine wpAny_bind (wpAny_pure ?_)
    have sp := go_spec t R.table.ris R.table.dm (fun i => (es[i]?.map (·.1)).getD 0) (kh w x) (10 * SetTable.turns t.mask) (K - c) (nth t.mask (pr0 t (kh w x)) c) (nth_clean _ c _ rfl) (by omega)
      (fun q hq => by rw [pr_way]; exact hKb _ (by omega)) (by rw [pr_way, show c + (K - c) = K by omega]; exact hK)
    rw [hst]
    rcases sp with ⟨q, i, hq, hi, hh, hno, hp⟩ | ⟨hno, hp⟩
    · have hp : t.probe (fun i => (es[i]?.map (·.1)).getD 0) (kh w x) (nth t.mask (pr0 t (kh w x)) c) = _ := hp
      rw [hp]
      dsimp only
      rw [pr_way] at hi ⊢
      rw [pr_add]
      have il : i < L.length := by
        have z1 := (List.getElem?_eq_some_iff.mp hi).1
        have z2 := R.table.sz
        rw [List.length_map] at z2
        rw [Array.length_toList] at z1
        omega
      obtain ⟨r, hr⟩ : ∃ r, L[i]? = some r := ⟨_, List.getElem?_eq_getElem il⟩
      have mr := List.mem_of_getElem? hr
      have sl := slot_live R.table.ris hi
      have go : wpAny (model P w) A (searchRest a (.ref x.1) (kh w x) true f es t (way t.mask (kh w x) (c + q)) i (nth t.mask (pr0 t (kh w x)) (c + (q + 1)))) Q E s := by
        unfold searchRest
        rw [rws_at R.lines hr]
        dsimp only
        refine wpAny_bind (wpAny_holding (eqKeys hu (R.keys r mr) hx ?_))
        refine wpAny_bind (wpAny_setState_of ho hd R.fit ?_)
        dsimp only
        by_cases ek : r.2 = x.2
        · exact wp_if_pos (by simp [ek]) (wpAny_pure (yes (List.mem_map.mpr ⟨r, mr, ek⟩)))
        · refine wp_if_neg (by simp [ek]) ?_
          refine wpAny_bind (wpAny_pure ?_)
          rw [sameMem]
          dsimp only
          simp only [if_true, sl, rws_at R.lines hr]
          refine wpAny_bind (wpAny_isSame_ref_self (wpAny_bind (wpAny_pure ?_)))
          simp only [if_true]
          refine wp_if_neg (by simp [ek]) ?_
          refine ih (c + (q + 1)) _ rfl (by omega) (by omega) fun i0 r0 h0 e0 => ?_
          obtain ⟨c', b1, b2, b3⟩ := ahead i0 r0 h0 e0
          refine ⟨c', ?_, b2, b3⟩
          by_cases lo : c' < c + q
          · exact absurd ((hat i0 r0 h0).trans (by rw [kh, kh, e0])) (hno (c' - c) i0 (by omega) (by rw [pr_way, show c + (c' - c) = c' by omega]; exact b3))
          by_cases eq : c' = c + q
          · exfalso
            rw [eq] at b3
            have z := slot_live R.table.ris b3
            rw [sl] at z
            injection z with z
            rw [← z, hr] at h0
            exact ek ((congrArg Prod.snd (Option.some.inj h0)).trans e0)
          · omega
      by_cases led : t.led = true
      · exact wp_if_neg (by simp [led]) (by first | exact go | exact wpAny_bind (wpAny_pure go))
      · refine wp_if_pos (by simp [led]) ?_
        refine wpAny_bind (unseen hx (fun y hy => ?_) ?_)
        · obtain ⟨e, he, rfl⟩ := List.mem_map.mp hy
          have he1 : e ∈ es ∧ e.1 = kh w x := by simpa using he
          have he2 : e ∈ es.toList := by simpa using he1.1
          rw [R.lines] at he2
          obtain ⟨r2, hr2, rfl⟩ := List.mem_map.mp he2
          exact ⟨r2, rfl, R.keys r2 hr2⟩
        · exact wp_if_neg (by decide) (by first | exact go | exact wpAny_bind (wpAny_pure go))
    · have hp : t.probe (fun i => (es[i]?.map (·.1)).getD 0) (kh w x) (nth t.mask (pr0 t (kh w x)) c) = _ := hp
      rw [hp]
      dsimp only
      rw [pr_way, show c + (K - c) = K by omega]
      refine wpAny_pure (no fun hm => ?_)
      obtain ⟨r0, m0, e0⟩ := List.mem_map.mp hm
      obtain ⟨i0, l0, g0⟩ := List.getElem_of_mem m0
      have h0 : L[i0]? = some r0 := by rw [List.getElem?_eq_getElem l0, g0]
      obtain ⟨c', b1, b2, b3⟩ := ahead i0 r0 h0 e0
      exact hno (c' - c) i0 (by omega) (by rw [pr_way, show c + (c' - c) = c' by omega]; exact b3) ((hat i0 r0 h0).trans (by rw [kh, kh, e0]))
theorem seekAll (R : SN w s.heap a L es ep t) {x : Row} (hx : KAt s.heap x) (hu : A.units + 8 < cLine) {Q : SetFound → Shared → Prop}
    (yes : x.2 ∈ L.map (·.2) → Q (.there none) s)
    (no : ∀ K, x.2 ∉ L.map (·.2) → way t.mask (kh w x) K ∉ t.place.toList → (∀ c, c < K → way t.mask (kh w x) c ∈ t.place.toList) → Q (.free (way t.mask (kh w x) K) false) s) :
    wpAny (model P w) A (setSearch a (.ref x.1) (kh w x) true) Q E s := by
  have sp := R.space
  obtain ⟨K, hKf, hK, hKb⟩ := R.table.first (by rw [List.length_map]; omega) (kh w x)
  have small : K < 100000 := by
    have z : 10 * SetTable.turns t.mask ≤ 1420 := by
      unfold SetTable.turns
      rcases R.table.mok with e | e | e <;> omega
    omega
  unfold setSearch
  refine seek R hx hu hKf hK hKb yes (fun hn => no K hn hK hKb) 100000 0 none rfl (Nat.zero_le _) (by omega) fun i r hr e => ?_
  have hi : (L.map (kh w))[i]? = some (kh w x) := by rw [List.getElem?_map, hr, Option.map_some, kh, kh, e]
  have il : i < t.place.toList.length := by
    have z1 := (List.getElem?_eq_some_iff.mp hr).1
    have z2 := R.table.sz
    rw [List.length_map] at z2
    rw [Array.length_toList]
    omega
  have hj := List.getElem?_eq_getElem il
  obtain ⟨c, hc, ec⟩ := R.table.before hK hi hj
  exact ⟨c, Nat.zero_le _, hc, by rw [hj, ec]⟩
end
section
variable {P : Program} {w : World} {A : Around} {E : Value → Shared → Prop} {s : Shared} {a : Addr} {L : List Row} {es : Array (Int × Value)} {ep : Nat} {t : SetTable}
theorem KAt.same {h h' : Heap} {r : Row} {o : Obj} (k : KAt h r) (ho : h.get? a = some o) (hd : o.data = .set es ep t) (sb : Heap.SameBut a h h') : KAt h' r :=
  ⟨NestedIs.at (fun b ob vs n hb hs => (sb.2 b fun z => by
    subst z
    rw [ho] at hb
    cases hb
    rw [hd] at hs
    cases hs).trans hb) _ _ k.1, k.2⟩
theorem KAt.more {h h' : Heap} {r : Row} (k : KAt h r) (hk : ∀ b o, h.get? b = some o → h'.get? b = some o) : KAt h' r := ⟨NestedIs.at (fun b o _ _ hb _ => hk b o hb) _ _ k.1, k.2⟩
theorem all_at {α : Type} : ∀ L : List α, (List.range L.length).filterMap (fun i => L[i]?) = L
  | [] => rfl
  | x :: r => by
    rw [List.length_cons, List.range_succ_eq_map, List.filterMap_cons_some (b := x) (by rfl), List.filterMap_map]
    exact congrArg (x :: ·) (all_at r)
theorem reorder {w : World} {order : Array Nat} (e : es.toList = rws w L) (hp : order.toList.Perm (List.range L.length)) :
    ∃ L2, (order.filterMap (es[·]?)).toList = rws w L2 ∧ L2.Perm L ∧ L2.map (kh w) = order.toList.map fun i => (es.map (·.1)).getD i 0 := by
  have at_ : ∀ i : Nat, es[i]? = (L[i]?).map fun r => (kh w r, Value.ref r.1) := fun i => by rw [← Array.getElem?_toList, e, rws, List.getElem?_map]
  refine ⟨order.toList.filterMap fun i => L[i]?, ?_, ?_, ?_⟩
  · rw [Array.toList_filterMap, rws, List.map_filterMap]
    exact congrArg (fun g => order.toList.filterMap g) (funext at_)
  · have z := hp.filterMap fun i => L[i]?
    rwa [all_at] at z
  · have lt : ∀ i ∈ order.toList, i < L.length := fun i hi => List.mem_range.mp (hp.mem_iff.mp hi)
    generalize order.toList = l at lt
    induction l with
    | nil => rfl
    | cons i l ih =>
      have hi := lt i List.mem_cons_self
      rw [List.filterMap_cons_some (List.getElem?_eq_getElem hi), List.map_cons, List.map_cons, ih fun j hj => lt j (List.mem_cons_of_mem _ hj)]
      congr 1
      have z : (es.map (·.1))[i]? = some (kh w L[i]) := by rw [Array.getElem?_map, at_, List.getElem?_eq_getElem hi]; rfl
      rw [Array.getD_eq_getD_getElem?, z]
      rfl
theorem relay {o : Obj} (ho : s.heap.get? a = some o) (hex : o.ExactSet) (hd : o.data = .set es ep t) (lines : es.toList = rws w L) (sz : t.place.size = es.size) (dm : t.dummies = #[]) (fl : es.size ≤ t.mask)
    (apart : (L.map (·.2)).Nodup) (keys : ∀ r ∈ L, KAt s.heap r) (order : w.params.followText "set-order" = true ∨ t.led = true) (bound : L.length ≤ 76) {wanted M : Nat}
    (hw : SetTable.sizeAbove wanted - 1 = M) (hM : MaskOk M) (hw2 : SetTable.sizeAbove wanted ≤ 128) (hn : L.length * 5 < M * 3) {Q : Unit → Shared → Prop}
    (hQ : ∀ h' L' es' ep' t', Heap.SameBut a s.heap h' → SN w h' a L' es' ep' t' → L'.Perm L → Q () { s with heap := h' }) : wpAny (model P w) A (setRelay a wanted) Q E s := by
  have len := rws_len lines
  have ft : t.fits es.size = true := by
    unfold SetTable.fits SetTable.fill
    rw [dm, Bool.and_eq_true, beq_iff_eq, decide_eq_true_eq]
    show t.place.size = es.size ∧ t.place.size + 0 ≤ t.mask
    omega
  obtain ⟨t', ord, e, hp, T, em, el, _, _⟩ := relaid_ok t (hs := es.map (·.1)) hw hM (by rw [Array.size_map, len]; omega)
  rw [Array.size_map, len] at hp
  obtain ⟨L2, r1, r2, r3⟩ := reorder lines hp
  rw [← r3] at T
  have s2 : (ord.filterMap (es[·]?)).size = es.size := by rw [rws_len r1, r2.length_eq, len]
  rw [setRelay_eq]
  refine wpAny_bind (wpAny_setState_of ho hd ft ?_)
  dsimp only
  refine wp_if_neg (by rw [sizeLine_eq]; omega) ?_
  refine wpAny_bind ?_
  rw [e]
  dsimp only
  refine wp_if_neg (by rw [s2]; simp) ?_
  refine wpAny_pure ?_
  dsimp only
  refine wpAny_storeSet_of ho hd ?_ (by rw [s2, len, sizeLine_eq]; omega)
  have sb : Heap.SameBut a s.heap (s.heap.update a (Obj.putSet (ord.filterMap (es[·]?)) t')) := Heap.SameBut.update ..
  refine hQ _ L2 _ (ep + 1) t' sb ⟨⟨_, store_at ho hd, ⟨hex.1, hex.2.1, hex.2.2⟩, rfl⟩, r1, T, (r2.map (·.2)).nodup_iff.mpr apart, fun r hr => (keys r (r2.mem_iff.mp hr)).same ho hd sb, by rw [el]; exact order, ?_, by rw [r2.length_eq]; exact bound⟩ r2
  rw [r2.length_eq, em]
  exact hn
end
section
variable {P : Program} {w : World} {A : Around} {E : Value → Shared → Prop} {s : Shared} {a : Addr} {L : List Row} {es : Array (Int × Value)} {ep : Nat} {t : SetTable}
theorem ins_perm {α : Type} (L : List α) (p : Nat) (x : α) : (L.take p ++ x :: L.drop p).Perm (x :: L) := by
  have z : (L.take p ++ x :: L.drop p).Perm (x :: (L.take p ++ L.drop p)) := List.perm_middle
  rwa [List.take_append_drop] at z
theorem ins_rows (L : List Row) (p : Nat) (x : Row) : rws w (L.take p ++ x :: L.drop p) = (rws w L).take p ++ (kh w x, .ref x.1) :: (rws w L).drop p := by
  rw [rws, rws, List.map_append, List.map_cons, List.map_take, List.map_drop]
theorem unplain {t : SetTable} {hs : List Int} (T : TabOk t hs) (b : Bool) : TabOk (if b = true then t else { t with plain := false }) hs ∧ (if b = true then t else { t with plain := false }).mask = t.mask ∧
    (if b = true then t else { t with plain := false }).led = t.led ∧ (if b = true then t else { t with plain := false }).tooFull = t.tooFull ∧ (if b = true then t else { t with plain := false }).place = t.place := by
  cases b
  · exact ⟨⟨T.ris, T.dm, T.sz, T.mok, T.bd, T.reach⟩, rfl, rfl, rfl, rfl⟩
  · exact ⟨T, rfl, rfl, rfl, rfl⟩
theorem addRow (R : SN w s.heap a L es ep t) {x : Row} (hx : KAt s.heap x) (hu : A.units + 8 < cLine) (few : L.length + 1 ≤ 76) {Q : Bool → Shared → Prop}
    (hQ : ∀ b h' L' es' ep' t', Heap.SameBut a s.heap h' → SN w h' a L' es' ep' t' → (x.2 ∈ L.map (·.2) → L' = L) → (x.2 ∉ L.map (·.2) → L'.Perm (x :: L)) → Q b { s with heap := h' }) :
    wpAny (model P w) A (setAddHashed a (.ref x.1) (kh w x)) Q E s := by
  obtain ⟨o, ho, hex, hd⟩ := R.obj
  have len := rws_len R.lines
  have space := R.space
  unfold setAddHashed
  refine wpAny_holding ?_
  rw [show (100000 : Nat) = Nat.succ 99999 from rfl, setAddHashedIn_succ]
  refine wpAny_bind (wpAny_setState_of ho hd R.fit ?_)
  dsimp only
  refine wp_if_neg (by simp [byScan, Value.scannable]) ?_
  refine wpAny_bind (seekAll R hx hu (fun hm => wpAny_pure (hQ false s.heap L es ep t (Heap.SameBut.refl a s.heap) R (fun _ => rfl) fun z => absurd hm z)) fun K hm hK hKb => ?_)
  dsimp only
  refine wpAny_bind (wpAny_setState_of ho hd R.fit ?_)
  dsimp only
  obtain ⟨p1, p2, p3, p4, p5, _, _, _, p9⟩ := R.table.put hK hKb
  generalize t.put (way t.mask (kh w x) K) = pt at p1 p3 p4 p5 p9 ⊢
  obtain ⟨t1, p⟩ := pt
  dsimp only at p1 p3 p4 p5 p9 ⊢
  subst p1
  generalize SetTable.below t.place (way t.mask (kh w x) K) = p at p2 p3 ⊢
  have done : ∀ bv : Bool, wpAny (model P w) A (do
      storeSet a (SetTable.insertAt es p (kh w x, Value.ref x.1)) (if bv = true then t1 else { t1 with plain := false })
      if (!false && (if bv = true then t1 else { t1 with plain := false }).tooFull) = true then setRelay a (SetTable.grown (es.size + 1))
      pure true) Q E s := fun bv => by
    obtain ⟨u1, u2, u3, u4, u5⟩ := unplain p3 bv
    have u2 := u2.trans p4
    have u3 := u3.trans p5
    generalize (if bv = true then t1 else { t1 with plain := false }) = t2 at u1 u2 u3 u4 u5 ⊢
    have rows1 : (SetTable.insertAt es p (kh w x, Value.ref x.1)).toList = rws w (L.take p ++ x :: L.drop p) := by rw [SetTable.toList_insertAt, ins_rows, R.lines]
    have pm := ins_perm L p x
    have maps : (L.map (kh w)).take p ++ kh w x :: (L.map (kh w)).drop p = (L.take p ++ x :: L.drop p).map (kh w) := by rw [List.map_append, List.map_cons, List.map_take, List.map_drop]
    rw [maps] at u1
    generalize SetTable.insertAt es p (kh w x, Value.ref x.1) = es1 at rows1 ⊢
    generalize L.take p ++ x :: L.drop p = L1 at rows1 pm u1
    have len1 : L1.length = L.length + 1 := pm.length_eq
    have es1l : es1.size = L.length + 1 := by rw [rws_len rows1, len1]
    have apart1 : (L1.map (·.2)).Nodup := (pm.map (·.2)).nodup_iff.mpr (by rw [List.map_cons]; exact List.nodup_cons.mpr ⟨hm, R.apart⟩)
    refine wpAny_bind (wpAny_storeSet_of ho hd ?_ (by rw [es1l, sizeLine_eq]; omega))
    have sb : Heap.SameBut a s.heap (s.heap.update a (Obj.putSet es1 t2)) := Heap.SameBut.update ..
    have ho1 := store_at (es' := es1) (t' := t2) ho hd
    generalize s.heap.update a (Obj.putSet es1 t2) = h1 at sb ho1 ⊢
    have keys1 : ∀ r ∈ L1, KAt h1 r := fun r hr => by
      rcases List.mem_cons.mp (pm.mem_iff.mp hr) with e | hr
      · rw [e]; exact hx.same ho hd sb
      · exact (R.keys r hr).same ho hd sb
    have order1 : w.params.followText "set-order" = true ∨ t2.led = true := by rw [u3]; exact R.order
    have full : t2.tooFull = true ↔ t.mask * 3 ≤ (L.length + 1) * 5 := by
      rw [u4]
      unfold SetTable.tooFull
      rw [decide_eq_true_eq, p9, p4, List.length_map]
    dsimp only
    by_cases hf : t2.tooFull = true
    · refine wp_if_pos (by simp [hf]) ?_
      have hf := full.mp hf
      rw [len]
      have sz1 : t2.place.size = es1.size := by
        have z := u1.sz
        rw [List.length_map] at z
        rw [z, es1l, len1]
      have two : (t.mask = 7 ∧ L.length = 4) ∨ (t.mask = 31 ∧ L.length = 18) := by
        rcases R.table.mok with e | e | e
        · left; exact ⟨e, by omega⟩
        · right; exact ⟨e, by omega⟩
        · exfalso; omega
      have grow : ∀ M, SetTable.sizeAbove (SetTable.grown (L.length + 1)) - 1 = M → MaskOk M → SetTable.sizeAbove (SetTable.grown (L.length + 1)) ≤ 128 → (L.length + 1) * 5 < M * 3 →
          wpAny (model P w) A (setRelay a (SetTable.grown (L.length + 1)) >>= fun _ => pure true) Q E { s with heap := h1 } := fun M g1 g2 g3 g4 => by
        refine wpAny_bind (relay (s := { s with heap := h1 }) ho1 ⟨hex.1, hex.2.1, hex.2.2⟩ rfl rows1 sz1 u1.dm (by rw [es1l, u2]; rcases two with ⟨e, e2⟩ | ⟨e, e2⟩ <;> omega) apart1 keys1 order1 (by omega) g1 g2 g3 (by omega) ?_)
        intro h2 L2 es2 ep2 t2 sb2 R2 pm2
        exact wpAny_pure (hQ true h2 L2 es2 ep2 t2 (sb.trans sb2) R2 (fun z => absurd z hm) fun _ => pm2.trans pm)
      rcases two with ⟨_, e2⟩ | ⟨_, e2⟩
      · exact grow 31 (by rw [e2, size_20]) (.inr (.inl rfl)) (by rw [e2, size_20]; decide) (by omega)
      · exact grow 127 (by rw [e2, size_76]) (.inr (.inr rfl)) (by rw [e2, size_76]; decide) (by omega)
    · refine wp_if_neg (by simp [hf]) ?_
      have hf : ¬ t.mask * 3 ≤ (L.length + 1) * 5 := fun z => hf (full.mpr z)
      exact wpAny_pure (hQ true h1 L1 es1 (ep + 1) t2 sb ⟨⟨_, ho1, ⟨hex.1, hex.2.1, hex.2.2⟩, rfl⟩, rows1, u1, apart1, keys1, order1, by rw [len1, u2]; omega, by omega⟩ (fun z => absurd z hm) fun _ => pm)
  by_cases pl : t1.plain = true
  · exact wp_if_pos pl (wpAny_bind (byVal x.2 _ 8 _ hx.1 done))
  · exact wp_if_neg pl (wpAny_bind (wpAny_pure (done true)))
end
/-! ### set(list) -/
def newSetO (w : World) : Obj := { cls := .type "set", dict := none, data := .set #[] 0 (.fresh 0 0 (!w.params.followText "set-order")) }
section
variable {P : Program} {w : World} {A : Around} {E : Value → Shared → Prop} {s : Shared}
/-- what the set has of the first i items -/
structure Has (ks : List Row) (i : Nat) (L : List Row) : Prop where
  into : ∀ r ∈ L, r ∈ ks.take i
  every : ∀ r ∈ ks.take i, r.2 ∈ L.map (·.2)
  few : L.length ≤ i
theorem Has.start (ks : List Row) : Has ks 0 [] := ⟨fun _ z => (nomatch z), fun _ z => (by rw [List.take_zero] at z; cases z), Nat.zero_le _⟩
theorem Has.step {ks L L' : List Row} {i : Nat} {x : Row} (g : Has ks i L) (hx : ks[i]? = some x) (old : x.2 ∈ L.map (·.2) → L' = L) (new : x.2 ∉ L.map (·.2) → L'.Perm (x :: L)) : Has ks (i + 1) L' := by
  have tk : ks.take (i + 1) = ks.take i ++ [x] := by rw [List.take_add_one, hx]; rfl
  by_cases m : x.2 ∈ L.map (·.2)
  · rw [old m]
    refine ⟨fun r hr => ?_, fun r hr => ?_, Nat.le_succ_of_le g.few⟩
    · rw [tk]; exact List.mem_append_left _ (g.into r hr)
    · rw [tk] at hr
      rcases List.mem_append.mp hr with z | z
      · exact g.every r z
      · rw [List.mem_singleton.mp z]; exact m
  · have pm := new m
    refine ⟨fun r hr => ?_, fun r hr => ?_, by rw [pm.length_eq]; exact Nat.succ_le_succ g.few⟩
    · rw [tk]
      rcases List.mem_cons.mp (pm.mem_iff.mp hr) with e | z
      · rw [e]; exact List.mem_append_right _ (List.mem_singleton.mpr rfl)
      · exact List.mem_append_left _ (g.into r z)
    · rw [tk] at hr
      refine (pm.map (·.2)).mem_iff.mpr ?_
      rcases List.mem_append.mp hr with z | z
      · exact List.mem_cons_of_mem _ (g.every r z)
      · rw [List.mem_singleton.mp z]; exact List.mem_cons_self
theorem SN.later {h h' : Heap} {a : Addr} {L : List Row} {es : Array (Int × Value)} {ep : Nat} {t : SetTable} (R : SN w h a L es ep t) (ha : ∀ o, h.get? a = some o → h'.get? a = some o) (hk : ∀ r ∈ L, KAt h' r) : SN w h' a L es ep t := by
  obtain ⟨o, ho, r⟩ := R.obj
  exact ⟨⟨o, ha o ho, r⟩, R.lines, R.table, R.apart, hk, R.order, R.space, R.bound⟩
theorem sn_new {h : Heap} {a : Addr} (ho : h.get? a = some (newSetO w)) : SN w h a [] #[] 0 (.fresh 0 0 (!w.params.followText "set-order")) := by
  refine ⟨⟨_, ho, ⟨rfl, rfl, rfl⟩, rfl⟩, rfl, ⟨List.Pairwise.nil, rfl, rfl, .inl rfl, fun _ z => (nomatch z), fun i h j z => (by simp at z)⟩, List.nodup_nil, fun _ z => (nomatch z), ?_, by show 0 * 5 < 7 * 3; decide, Nat.zero_le _⟩
  show _ ∨ (!w.params.followText "set-order") = true
  cases w.params.followText "set-order"
  · exact .inr rfl
  · exact .inl rfl
theorem fill {I : Addr} {fp wr : List Addr} {G : Array GenState → Array GenState → Prop} {n : Nat} {Pv : Nat → Value → Prop} {St : Nat → Shared → Prop} {R : Result → Shared → Prop} (W : WalksS P w A.in1 I fp wr G n Pv St) (S : Addr) (nS : S ∉ fp)
    (ks : List Row) (hn : n = ks.length) (few : ks.length ≤ 76) (val : ∀ i v, Pv i v → ∃ r, ks[i]? = some r ∧ v = .ref r.1) (h0 : Heap) (hk : ∀ r ∈ ks, KAt h0 r) (hS0 : h0.get? S = none) (hw0 : ∀ b ∈ wr, h0.get? b = none) (hu : A.in1.units + 8 < cLine) :
    ∀ (k i : Nat) (s : Shared), n - i = k → i ≤ n → St i s → (∀ b o, h0.get? b = some o → s.heap.get? b = some o) → (∃ L es ep t, SN w s.heap S L es ep t ∧ Has ks i L) →
      (∀ s' L es ep t, Moved (S :: wr) G s s' → SN w s'.heap S L es ep t → Has ks n L → (∀ b o, h0.get? b = some o → s'.heap.get? b = some o) → R (.ok (.ret .none)) s') →
      codeAny (model P w) A (.builtin "set.update.loop" ⟨[.ref S, .ref I], []⟩) R s := by
  have nSw : S ∉ wr := fun z => nS (W.sub _ z)
  have up : ∀ b ∈ wr, b ∈ S :: wr := fun b z => List.mem_cons_of_mem _ z
  have stay : ∀ {s s' : Shared}, Moved wr G s s' → (∀ b o, h0.get? b = some o → s.heap.get? b = some o) → ∀ b o, h0.get? b = some o → s'.heap.get? b = some o := fun mv kp b o e =>
    mv.heap b o (fun z => by rw [hw0 b z] at e; cases e) (kp b o e)
  intro k
  induction k with
  | zero =>
    intro i s ek hi st kp ⟨L, es, ep, t, sn, g⟩ fin
    obtain rfl : i = n := by omega
    refine codeAny_builtin F.entry_set_update_loop ?_
    rw [Around.under_plainId F.plain_set_update_loop _]
    show wpAny _ A.in1 (pyNext (.ref I) >>= _) _ _ s
    refine wpAny_bind (W.done s _ _ st fun s' mv => ?_)
    have kp' := stay mv kp
    show wpAny _ A.in1 (ret Value.none) _ _ s'
    exact wpAny_pure (fin s' L es ep t (mv.mono up) (sn.later (fun o e => mv.heap S o nSw e) fun r hr => (hk r (List.mem_of_mem_take (g.into r hr))).more kp') g kp')
  | succ k ih =>
    intro i s ek hi st kp ⟨L, es, ep, t, sn, g⟩ fin
    have lt : i < n := by omega
    refine codeAny_builtin F.entry_set_update_loop ?_
    rw [Around.under_plainId F.plain_set_update_loop _]
    show wpAny _ A.in1 (pyNext (.ref I) >>= _) _ _ s
    refine wpAny_bind (W.item i s _ _ lt st fun v s' pv st' mv => ?_)
    obtain ⟨r, hr, rfl⟩ := val i v pv
    have kp' := stay mv kp
    have sn' : SN w s'.heap S L es ep t := sn.later (fun o e => mv.heap S o nSw e) fun r hr => (hk r (List.mem_of_mem_take (g.into r hr))).more kp'
    have hx : KAt s'.heap r := (hk r (List.mem_of_getElem? hr)).more kp'
    show wpAny _ A.in1 (holding [Value.ref r.1] (setAdd S (.ref r.1)) >>= _) _ _ s'
    refine wpAny_bind (wpAny_holding ?_)
    unfold setAdd
    refine wpAny_holding ?_
    have hd := hx.2
    refine wpAny_bind (pyHash_key r.2 _ _ _ _ hx.1 (by omega) ?_)
    refine addRow (s := { s' with toks := s'.toks + r.2.draws }) sn' hx hu (by have := g.few; omega) fun b h' L' es' ep' t' sb sn2 old new => ?_
    have kp2 : ∀ b o, h0.get? b = some o → h'.get? b = some o := fun b o e => (sb.2 b (fun z => by rw [z, hS0] at e; cases e)).trans (kp' b o e)
    refine wpAny_pure ⟨plainId_quiet F.plain_set_update_loop _, ih (i + 1) _ (by omega) lt (W.frame _ s' _ _ st' (Nat.le_add_right _ _) fun b hb o e => ?_) kp2 ⟨L', es', ep', t', sn2, g.step hr old new⟩ fun s3 L3 es3 ep3 t3 mv3 sn3 g3 kp3 => ?_⟩
    · rw [sb.2 b (fun z : b = S => nS (by rw [← z]; exact hb))]; exact e
    · refine fin s3 L3 es3 ep3 t3 (Moved.trans W.gtrans ((mv.mono up).then_heap (Nat.le_add_right _ _) fun b o hb e => ?_) mv3) sn3 g3 kp3
      rw [sb.2 b (fun z : b = S => hb (by rw [z]; exact List.mem_cons_self))]; exact e
end
end N17

set_option Elab.async false
set_option linter.all false
set_option autoImplicit false
set_option maxRecDepth 100000
set_option maxHeartbeats 6400000
/-! # set(list), set(tuple): the call, whatever the loop does -/
namespace N17
open PySem PySem.Spec PyProof.Rows L2
section
variable {P : Program} {w : World} {A : Around} {E : Value → Shared → Prop} {s : Shared}
theorem callSetG {l : Addr} {its : Array Value} (J : Heap → Prop) {Q : Value → Shared → Prop} (hh : A.handled = none) (hl : s.heap.IsList l its ∨ s.heap.IsTuple l its)
    (loop : ∀ (I : Addr) (fp wr : List Addr) (G : Array GenState → Array GenState → Prop) (St : Nat → Shared → Prop), WalksS P w A.in1.in1.in1 I fp wr G its.size (fun i v => its[i]? = some v) St → s.heap.objs.size ∉ fp → (∀ b ∈ wr, s.heap.get? b = none) →
      ∀ s1 : Shared, St 0 s1 → (∀ b o, s.heap.get? b = some o → s1.heap.get? b = some o) → s1.heap.get? s.heap.objs.size = some (newSetO w) → ∀ R : Result → Shared → Prop,
      (∀ s', Moved (s.heap.objs.size :: wr) G s1 s' → J s'.heap → (∀ b o, s.heap.get? b = some o → s'.heap.get? b = some o) → R (.ok (.ret .none)) s') →
      codeAny (model P w) A.in1.in1 (.builtin "set.update.loop" ⟨[.ref s.heap.objs.size, .ref I], []⟩) R s1)
    (fin : ∀ (h' : Heap) (tk : Nat), J h' → (∀ b o, s.heap.get? b = some o → h'.get? b = some o) → Q (.ref s.heap.objs.size) { s with heap := h', toks := tk }) :
    wpAny (model P w) A (call (.type "set") [.ref l]) Q E s := by
  have void : ∀ b, s.heap.objs.size ≤ b → s.heap.get? b = none := fun b hb => by
    cases q : s.heap.get? b with
    | none => rfl
    | some o => exact absurd (Nat.lt_of_lt_of_le (Heap.lt_size q) hb) (Nat.lt_irrefl b)
  obtain ⟨c, tl, mro_⟩ := F.called_set.mro
  have made_ := F.called_set.made
  have sub_ := F.called_set.sub
  refine wpAny_call (codeAny_of_tree ?_)
  show wpAny _ _ (callAny (.type "set") ⟨_, _⟩) _ _ _
  refine wpAny_pure ⟨Code.quiet_builtin _ (by decide +kernel), codeAny_builtin F.entry_type_call ?_⟩
  rw [Around.under_plain (weight_type_call_type "set" [.ref l] []) rfl]
  have f1 := F.called_set.notType
  have f2 := F.called_set.canCreate
  have f3 := F.typeCall_set_1 (.ref l)
  repeat' (first | assumption | wp_step)
  have one : (s.heap.push (newSetO w)).get? s.heap.objs.size = some (newSetO w) := Heap.get?_push_size _ rfl
  refine codeAny_mono (code_set_led1 (.ref l) (E := E) (Q₁ := fun ob s1 => ob = .ref s.heap.objs.size ∧ s1 = { s with heap := s.heap.push (newSetO w) }) ⟨rfl, rfl⟩) fun r s1 hr => ?_
  rcases r with e | fl
  · exact hr
  cases fl <;> first | exact hr.elim | skip
  rename_i ob
  obtain ⟨rfl, rfl⟩ := hr
  have tS : Shared.TypeIs { s with heap := s.heap.push (newSetO w) } (.ref s.heap.objs.size) "set" := ⟨_, one, rfl⟩
  have g1 := F.called_set.init.lookup
  have g2 := F.called_set.init.bind (.ref s.heap.objs.size)
  repeat' (first | assumption | wp_step)
  refine codeAny_mono (codeAny_call_builtin (R := wants (fun r s2 => r = .none ∧ ∃ h' tk, s2 = { s with heap := h', toks := tk } ∧ J h' ∧ (∀ b o, s.heap.get? b = some o → h'.get? b = some o)) E)
    F.called_set.init.plain F.entry_set_init (check_set_init_1 tS ?_)) fun r2 s2 hr2 => ?_
  · rcases hl with hl | hl
    · obtain ⟨⟨oc, od, oda, osl⟩, hol, hcl, nl, hdl⟩ := hl
      simp only at hcl hdl
      subst hcl hdl
      have hol1 : (s.heap.push (newSetO w)).get? l = some { cls := .type "list", dict := od, data := .seq its nl, slots := osl } := Heap.get?_push_of_some _ hol
      have sl1 := F.sub_list_set
      have sl2 := F.sub_list_frozenset
      have nd : (Value.type "list" == Value.type "dict") = false := by decide
      have hl1 : (s.heap.push (newSetO w)).IsList l its := ⟨_, hol1, rfl, nl, rfl⟩
      unfold Builtin.«set.__init__» noKeywords Builtin.Frozenset.updateFrom
      generalize gp : pyIter = pI
      wp_walk
      subst gp
      refine wpAny_pyIter_list hl1 ?_
      refine wpAny_bind (wpAny_runValue ?_)
      have lS : l < s.heap.objs.size := Heap.lt_size hol
      have h3 : A.in1.in1.in1.handled = none := by simp [hh]
      have sz : (s.heap.push (newSetO w)).objs.size = s.heap.objs.size + 1 := Heap.size_push ..
      refine loop _ _ _ _ _ ((Walks.list h3 _ l (by rw [sz]; exact Nat.ne_of_lt (Nat.lt_succ_of_lt lS)) its).toS) (by rw [sz]; simp only [List.mem_cons, List.not_mem_nil, or_false, not_or]; exact ⟨Nat.ne_of_lt (Nat.lt_succ_self _), Nat.ne_of_gt lS⟩)
        (fun b hb => void b (by rw [List.mem_singleton.mp hb, sz]; exact Nat.le_succ _)) _ ⟨⟨_, Heap.get?_push_size _ rfl, rfl, rfl⟩, hl1.push _⟩ (fun b o e => Heap.get?_push_of_some _ (Heap.get?_push_of_some _ e)) (Heap.get?_push_of_some _ one) _ ?_
      intro s' mv j kp
      obtain ⟨h', g', d', tk, os'⟩ := s'
      have e1 : g' = s.gens := mv.gens
      have e2 : d' = s.drawn := mv.drawn
      have e3 : os' = s.os := mv.os
      subst e1 e2 e3
      show wpAny _ _ _ _ _ _
      refine wpAny_pure ?_
      show wpAny _ _ (ret Value.none) _ _ _
      exact wpAny_pure ⟨rfl, h', tk, rfl, j, kp⟩
    · obtain ⟨⟨oc, od, oda, osl⟩, hol, hcl, nl, hdl⟩ := hl
      simp only at hcl hdl
      subst hcl hdl
      have hol1 : (s.heap.push (newSetO w)).get? l = some { cls := .type "tuple", dict := od, data := .seq its nl, slots := osl } := Heap.get?_push_of_some _ hol
      have sl1 := F.sub_tuple_set
      have sl2 := F.sub_tuple_frozenset
      have nd : (Value.type "tuple" == Value.type "dict") = false := by decide
      have hl1 : (s.heap.push (newSetO w)).IsTuple l its := ⟨_, hol1, rfl, nl, rfl⟩
      unfold Builtin.«set.__init__» noKeywords Builtin.Frozenset.updateFrom
      generalize gp : pyIter = pI
      wp_walk
      subst gp
      refine wpAny_pyIter_tuple hl1 ?_
      refine wpAny_bind (wpAny_runValue ?_)
      have lS : l < s.heap.objs.size := Heap.lt_size hol
      have h3 : A.in1.in1.in1.handled = none := by simp [hh]
      have sz : (s.heap.push (newSetO w)).objs.size = s.heap.objs.size + 1 := Heap.size_push ..
      refine loop _ _ _ _ _ ((Walks.tuple h3 _ l (by rw [sz]; exact Nat.ne_of_lt (Nat.lt_succ_of_lt lS)) its).toS) (by rw [sz]; simp only [List.mem_cons, List.not_mem_nil, or_false, not_or]; exact ⟨Nat.ne_of_lt (Nat.lt_succ_self _), Nat.ne_of_gt lS⟩)
        (fun b hb => void b (by rw [List.mem_singleton.mp hb, sz]; exact Nat.le_succ _)) _ ⟨⟨_, Heap.get?_push_size _ rfl, rfl, rfl⟩, hl1.push _⟩ (fun b o e => Heap.get?_push_of_some _ (Heap.get?_push_of_some _ e)) (Heap.get?_push_of_some _ one) _ ?_
      intro s' mv j kp
      obtain ⟨h', g', d', tk, os'⟩ := s'
      have e1 : g' = s.gens := mv.gens
      have e2 : d' = s.drawn := mv.drawn
      have e3 : os' = s.os := mv.os
      subst e1 e2 e3
      show wpAny _ _ _ _ _ _
      refine wpAny_pure ?_
      show wpAny _ _ (ret Value.none) _ _ _
      exact wpAny_pure ⟨rfl, h', tk, rfl, j, kp⟩
  · rcases r2 with e | fl
    · exact hr2
    cases fl <;> first | exact hr2.elim | skip
    obtain ⟨rfl, h', tk, rfl, j, kp⟩ := hr2
    repeat' (first | assumption | wp_step)
    exact fin _ _ j kp
/-- of tuples that are keys -/
theorem callSet {l : Addr} {its : Array Value} (ks : List Row) {Q : Value → Shared → Prop} (hh : A.handled = none) (hl : s.heap.IsList l its ∨ s.heap.IsTuple l its) (hi : its.toList = ks.map fun r => Value.ref r.1) (hk : ∀ r ∈ ks, KAt s.heap r) (few : ks.length ≤ 76) (hu : A.units + 12 < cLine)
    (fin : ∀ (h' : Heap) (tk : Nat) L es ep t, SN w h' s.heap.objs.size L es ep t → Has ks ks.length L → (∀ b o, s.heap.get? b = some o → h'.get? b = some o) → Q (.ref s.heap.objs.size) { s with heap := h', toks := tk }) :
    wpAny (model P w) A (call (.type "set") [.ref l]) Q E s := by
  have size : its.size = ks.length := by rw [← Array.length_toList, hi, List.length_map]
  have val : ∀ (i : Nat) (v : Value), its[i]? = some v → ∃ r, ks[i]? = some r ∧ v = .ref r.1 := fun i v hv => by
    rw [← Array.getElem?_toList, hi, List.getElem?_map] at hv
    cases q : ks[i]? with
    | none => rw [q] at hv; cases hv
    | some r => rw [q] at hv; exact ⟨r, rfl, (Option.some.inj hv).symm⟩
  have void : s.heap.get? s.heap.objs.size = none := by
    cases q : s.heap.get? s.heap.objs.size with
    | none => rfl
    | some o => exact absurd (Heap.lt_size q) (Nat.lt_irrefl _)
  refine callSetG (fun h => ∃ L es ep t, SN w h s.heap.objs.size L es ep t ∧ Has ks ks.length L) hh hl (fun I fp wr G St W nS hw s1 st kp one R end_ => ?_) fun h' tk ⟨L, es, ep, t, sn, g⟩ kp => fin h' tk L es ep t sn g kp
  refine fill W s.heap.objs.size nS ks size few val s.heap hk void hw (by show A.units + 1 + 1 + 1 + 8 < _; omega) (its.size - 0) 0 s1 (by omega) (Nat.zero_le _) st kp ⟨[], #[], 0, _, sn_new one, Has.start ks⟩ fun s' L es ep t mv sn g kp' => end_ s' mv ⟨L, es, ep, t, sn, by rw [← size]; exact g⟩ kp'
end
end N17

set_option Elab.async false
set_option linter.all false
set_option autoImplicit false
set_option maxRecDepth 100000
set_option maxHeartbeats 4000000
/-! # sets of texts; len(set(..)), sorted(set(..)) as rules -/
namespace N17
open PySem PySem.Spec PyProof.Rows L2
/-- n is the number of different things in l -/
def Cnt {α : Type} (l : List α) (n : Nat) : Prop := ∃ ds : List α, ds.Nodup ∧ (∀ x, x ∈ ds ↔ x ∈ l) ∧ ds.length = n
theorem Cnt.uniq {α : Type} {l : List α} {n m : Nat} (h : Cnt l n) (h' : Cnt l m) : n = m := by
  obtain ⟨d1, n1, e1, rfl⟩ := h
  obtain ⟨d2, n2, e2, rfl⟩ := h'
  exact ((List.perm_ext_iff_of_nodup n1 n2).mpr fun x => (e1 x).trans (e2 x).symm).length_eq
theorem Cnt.nodup {α : Type} {l : List α} (h : l.Nodup) : Cnt l l.length := ⟨l, h, fun _ => Iff.rfl, rfl⟩
theorem Cnt.lt {α : Type} [DecidableEq α] : ∀ {l : List α} {n : Nat}, Cnt l n → ¬ l.Nodup → n < l.length
  | [], n, _, z => absurd List.nodup_nil z
  | x :: r, n, h, z => by
    obtain ⟨ds, nd, e, rfl⟩ := h
    by_cases hx : x ∈ r
    · have c : Cnt r ds.length := ⟨ds, nd, fun y => (e y).trans ⟨fun m => (List.mem_cons.mp m).elim (fun q => q ▸ hx) id, List.mem_cons_of_mem _⟩, rfl⟩
      have le : ds.length ≤ r.length := by
        by_cases hn : r.Nodup
        · rw [c.uniq (.nodup hn)]; exact Nat.le_refl _
        · exact Nat.le_of_lt (Cnt.lt c hn)
      rw [List.length_cons]; omega
    · have hn : ¬ r.Nodup := fun q => z (List.nodup_cons.mpr ⟨hx, q⟩)
      have mx : x ∈ ds := (e x).mpr List.mem_cons_self
      have c : Cnt r (ds.erase x).length := ⟨ds.erase x, nd.erase x, fun y => by
        rw [nd.mem_erase_iff, e y, List.mem_cons]
        constructor
        · rintro ⟨h1, h2⟩; exact h2.resolve_left h1
        · intro h; exact ⟨fun q => hx (q ▸ h), .inr h⟩, rfl⟩
      have := Cnt.lt c hn
      rw [List.length_erase_of_mem mx] at this
      have := List.length_pos_of_mem mx
      rw [List.length_cons]; omega
theorem Cnt.iff {α : Type} [DecidableEq α] {l : List α} {n : Nat} (h : Cnt l n) : n = l.length ↔ l.Nodup :=
  ⟨fun e => Classical.byContradiction fun z => by have := h.lt z; omega, fun d => h.uniq (.nodup d)⟩
theorem Has.cnt {ks L : List Row} (g : Has ks ks.length L) (nd : (L.map (·.2)).Nodup) : Cnt (ks.map (·.2)) L.length :=
  ⟨L.map (·.2), nd, fun x => by
    constructor
    · intro m
      obtain ⟨r, hr, rfl⟩ := List.mem_map.mp m
      exact List.mem_map_of_mem (List.mem_of_mem_take (g.into r hr))
    · intro m
      obtain ⟨r, hr, rfl⟩ := List.mem_map.mp m
      exact g.every r (by rw [List.take_length]; exact hr), List.length_map _⟩
section
variable {P : Program} {w : World} {A : Around} {E : Value → Shared → Prop} {s : Shared}
def Strs (S : Str → Bool) (c : Nat) (l : List Str) : Prop := (∀ x, S x = l.any (· == x)) ∧ Cnt l c
theorem Strs.step {S : Str → Bool} {c : Nat} {l : List Str} {x : Str} (h : Strs S c l) : Strs (fun y => S y || decide (y = x)) (if S x = true then c else c + 1) (l ++ [x]) := by
  obtain ⟨h1, ds, nd, e, rfl⟩ := h
  refine ⟨fun y => ?_, ?_⟩
  · show (S y || decide (y = x)) = _
    rw [h1, List.any_append]
    congr 1
    rw [List.any_cons, List.any_nil, Bool.or_false]
    by_cases q : y = x
    · subst q; simp
    · rw [decide_eq_false q]
      symm
      rw [beq_eq_false_iff_ne]
      exact fun z => q z.symm
  · have mem : S x = true ↔ x ∈ l := by rw [h1, List.any_eq_true]; exact ⟨fun ⟨y, hy, q⟩ => by rw [← beq_iff_eq.mp q]; exact hy, fun m => ⟨x, m, beq_self_eq_true x⟩⟩
    by_cases m : S x = true
    · rw [if_pos m]
      refine ⟨ds, nd, fun y => ?_, rfl⟩
      rw [e y, List.mem_append, List.mem_singleton]
      exact ⟨.inl, fun q => q.elim id fun q => q ▸ mem.mp m⟩
    · rw [if_neg m]
      refine ⟨ds ++ [x], ?_, fun y => ?_, by simp⟩
      · refine List.nodup_append.mpr ⟨nd, List.pairwise_singleton _ _, fun a ha b hb q => ?_⟩
        rw [List.mem_singleton.mp hb] at q
        exact m (mem.mpr ((e x).mp (q ▸ ha)))
      · rw [List.mem_append, List.mem_append, e y]
theorem fillTxt {I : Addr} {fp wr : List Addr} {G : Array GenState → Array GenState → Prop} {n : Nat} {Pv : Nat → Value → Prop} {St : Nat → Shared → Prop} {R : Result → Shared → Prop} (W : WalksS P w A.in1 I fp wr G n Pv St) (S : Addr) (nS : S ∉ fp)
    (xs : List Str) (hn : n = xs.length) (few : xs.length ≤ 1000) (val : ∀ i v, Pv i v → ∃ x t, xs[i]? = some x ∧ v = .str x t) (h0 : Heap) (hS0 : h0.get? S = none) (hw0 : ∀ b ∈ wr, h0.get? b = none) :
    ∀ (k i : Nat) (s : Shared), n - i = k → i ≤ n → St i s → (∀ b o, h0.get? b = some o → s.heap.get? b = some o) → (∃ M c, s.heap.SetOf (strKind P w) S M c ∧ Strs M c (xs.take i) ∧ c ≤ i) →
      (∀ s' M c, Moved (S :: wr) G s s' → s'.heap.SetOf (strKind P w) S M c → Strs M c xs → (∀ b o, h0.get? b = some o → s'.heap.get? b = some o) → R (.ok (.ret .none)) s') →
      codeAny (model P w) A (.builtin "set.update.loop" ⟨[.ref S, .ref I], []⟩) R s := by
  have nSw : S ∉ wr := fun z => nS (W.sub _ z)
  have up : ∀ b ∈ wr, b ∈ S :: wr := fun b z => List.mem_cons_of_mem _ z
  have stay : ∀ {s s' : Shared}, Moved wr G s s' → (∀ b o, h0.get? b = some o → s.heap.get? b = some o) → ∀ b o, h0.get? b = some o → s'.heap.get? b = some o := fun mv kp b o e =>
    mv.heap b o (fun z => by rw [hw0 b z] at e; cases e) (kp b o e)
  have set_at : ∀ {h h' : Heap} {M : Str → Bool} {c : Nat}, h.SetOf (strKind P w) S M c → (∀ o, h.get? S = some o → h'.get? S = some o) → h'.SetOf (strKind P w) S M c := fun q k => by
    obtain ⟨o, es, ep, t, ho, r⟩ := q
    exact ⟨o, es, ep, t, k o ho, r⟩
  intro k
  induction k with
  | zero =>
    intro i s ek hi st kp ⟨M, c, so, g, _⟩ fin
    obtain rfl : i = n := by omega
    refine codeAny_builtin F.entry_set_update_loop ?_
    rw [Around.under_plainId F.plain_set_update_loop _]
    show wpAny _ A.in1 (pyNext (.ref I) >>= _) _ _ s
    refine wpAny_bind (W.done s _ _ st fun s' mv => ?_)
    show wpAny _ A.in1 (ret Value.none) _ _ s'
    rw [hn, List.take_length] at g
    exact wpAny_pure (fin s' M c (mv.mono up) (set_at so fun o e => mv.heap S o nSw e) g (stay mv kp))
  | succ k ih =>
    intro i s ek hi st kp ⟨M, c, so, g, ci⟩ fin
    have lt : i < n := by omega
    refine codeAny_builtin F.entry_set_update_loop ?_
    rw [Around.under_plainId F.plain_set_update_loop _]
    show wpAny _ A.in1 (pyNext (.ref I) >>= _) _ _ s
    refine wpAny_bind (W.item i s _ _ lt st fun v s' pv st' mv => ?_)
    obtain ⟨x, tk, hx, rfl⟩ := val i v pv
    have kp' := stay mv kp
    have so' := set_at so fun o e => mv.heap S o nSw e
    show wpAny _ A.in1 (holding [Value.str x tk] (setAdd S (.str x tk)) >>= _) _ _ s'
    refine wpAny_bind (wpAny_holding ?_)
    unfold setAdd
    refine wpAny_holding ?_
    refine wpAny_bind ((strKind P w).pyHash (k := x) (strKind_is _ _ _ _) ?_)
    refine wpAny_setAddHashed_of (knd := strKind P w) (s := { s' with toks := s'.toks + 1 }) (strKind_is _ _ _ _) rfl so' (by unfold scanBound; omega) fun h' sb so2 => ?_
    have kp2 : ∀ b o, h0.get? b = some o → h'.get? b = some o := fun b o e => (sb.2 b (fun z => by rw [z, hS0] at e; cases e)).trans (kp' b o e)
    have tk2 : xs.take (i + 1) = xs.take i ++ [x] := by rw [List.take_add_one, hx]; rfl
    refine wpAny_pure ⟨plainId_quiet F.plain_set_update_loop _, ih (i + 1) _ (by omega) lt (W.frame _ s' _ _ st' (Nat.le_succ _) fun b hb o e => ?_) kp2 ⟨_, _, so2, by rw [tk2]; exact g.step, by split <;> omega⟩ fun s3 M3 c3 mv3 so3 g3 kp3 => ?_⟩
    · rw [sb.2 b (fun z : b = S => nS (by rw [← z]; exact hb))]; exact e
    · refine fin s3 M3 c3 (Moved.trans W.gtrans ((mv.mono up).then_heap (Nat.le_succ _) fun b o hb e => ?_) mv3) so3 g3 kp3
      rw [sb.2 b (fun z : b = S => hb (by rw [z]; exact List.mem_cons_self))]; exact e
theorem callSetTxt {l : Addr} {its : Array Value} (xs : List Str) {Q : Value → Shared → Prop} (hh : A.handled = none) (hl : s.heap.IsList l its ∨ s.heap.IsTuple l its) (hi : StrsAre its.toList xs) (few : xs.length ≤ 1000)
    (fin : ∀ (h' : Heap) (tk : Nat) M c, h'.SetOf (strKind P w) s.heap.objs.size M c → Strs M c xs → (∀ b o, s.heap.get? b = some o → h'.get? b = some o) → Q (.ref s.heap.objs.size) { s with heap := h', toks := tk }) :
    wpAny (model P w) A (call (.type "set") [.ref l]) Q E s := by
  have size : its.size = xs.length := by rw [← Array.length_toList, hi.length]
  have txt_at : ∀ {us : List Value} {xs : List Str}, StrsAre us xs → ∀ (i : Nat) (v : Value), us[i]? = some v → ∃ x t, xs[i]? = some x ∧ v = .str x t := by
    intro us xs h
    induction h with
    | nil => intro i v z; simp at z
    | cons n t _ ih =>
      intro i v z
      cases i with
      | zero => exact ⟨_, t, rfl, by simpa using z.symm⟩
      | succ i => exact ih i v (by simpa using z)
  have void : s.heap.get? s.heap.objs.size = none := by
    cases q : s.heap.get? s.heap.objs.size with
    | none => rfl
    | some o => exact absurd (Heap.lt_size q) (Nat.lt_irrefl _)
  refine callSetG (fun h => ∃ M c, h.SetOf (strKind P w) s.heap.objs.size M c ∧ Strs M c xs) hh hl (fun I fp wr G St W nS hw s1 st kp one R end_ => ?_) fun h' tk ⟨M, c, so, g⟩ kp => fin h' tk M c so g kp
  refine fillTxt W s.heap.objs.size nS xs size few (fun i v hv => txt_at hi i v (by rw [Array.getElem?_toList]; exact hv)) s.heap void hw (its.size - 0) 0 s1 (by omega) (Nat.zero_le _) st kp
    ⟨_, 0, (setObjOf_fresh _).setOf one (by unfold scanBound; omega), ⟨fun _ => rfl, [], List.nodup_nil, fun _ => Iff.rfl, rfl⟩, Nat.le_refl _⟩ fun s' M c mv so g kp' => end_ s' mv ⟨M, c, so, g⟩ kp'
end
/-! ## from data to keys -/
section
variable {X : Cx} {pins : List (Addr × Obj)} {σ : L2.St} {H : Hp} {s : Shared} {Z : List Addr}
mutual
theorem nested_of (I : Inv X pins σ H s) : ∀ (k : NestedKey) (v : V) (u : Value), U.Dt X.K Z H v k.data → RelV v u → NestedIs s.heap k u
  | .none, _, u, d, r => by
    rw [NestedKey.data] at d
    cases d
    cases r
    exact .none
  | .num i, _, u, d, r => by
    rw [NestedKey.data] at d
    cases d
    obtain ⟨t, rfl⟩ := r
    exact .int _ _
  | .text x, _, u, d, r => by
    rw [NestedKey.data] at d
    cases d
    obtain ⟨t, rfl⟩ := r
    exact .text _ _
  | .tup ks, _, u, d, r => by
    rw [NestedKey.data] at d
    cases d with
    | tup t q =>
      cases r
      obtain ⟨its, rv, ⟨o, ho, hc, n, hd⟩, _⟩ := I.tuple t.sq
      exact .tup ho hc hd (by simpa using nested_all I ks _ its q rv)
theorem nested_all (I : Inv X pins σ H s) : ∀ (ks : List NestedKey) (vs : List V) (us : List Value), U.Dts X.K Z H vs (NestedKey.datas ks) → Vals vs us → NestedAll s.heap ks us
  | [], _, us, d, r => by
    rw [NestedKey.datas] at d
    cases d
    cases r
    exact .nil
  | k :: ks, _, us, d, r => by
    rw [NestedKey.datas] at d
    cases d with
    | cons d1 d2 =>
      cases r with
      | cons r1 r2 => exact .cons (nested_of I k _ _ d1 r1) (nested_all I ks _ _ d2 r2)
end
end
/-- the tuple of a row, as data -/
def KD (K : PySem.W.Frag) (Z : List Addr) (H : Hp) (r : Row) : Prop := U.Dt K Z H (.ref r.1) r.2.data ∧ r.2.depth ≤ 8
theorem KD.at_ {X : Cx} {pins : List (Addr × Obj)} {σ : L2.St} {H : Hp} {s : Shared} {Z : List Addr} {r : Row} (I : Inv X pins σ H s) (k : KD X.K Z H r) : KAt s.heap r := ⟨nested_of I _ _ _ k.1 rfl, k.2⟩
theorem vals_ref : ∀ {ks : List Row} {us : List Value}, Vals (ks.map fun r => V.ref r.1) us → us = ks.map fun r => Value.ref r.1
  | [], _, .nil => rfl
  | r :: ks, _, .cons q t => by
    cases q
    rw [vals_ref t]
    rfl
theorem vals_txt : ∀ {xs : List Str} {us : List Value}, Vals (xs.map V.str) us → StrsAre us xs
  | [], _, .nil => .nil
  | x :: xs, _, .cons q t => by
    obtain ⟨tk, rfl⟩ := q
    exact .cons _ _ (vals_txt t)
def rLenSet (K : PySem.W.Frag) : V → Hp → VK → Prop := fun x H Q => ∃ l, x = .ref l ∧
  ((∃ xs : List Str, (SqL K H l (xs.map V.str) ∨ SqT K H l (xs.map V.str)) ∧ xs.length ≤ 1000 ∧ ∀ c : Nat, Cnt xs c → Q (.int c) H) ∨
   ∃ (ks : List Row) (Z : List Addr), (SqL K H l (ks.map fun r => .ref r.1) ∨ SqT K H l (ks.map fun r => .ref r.1)) ∧ (∀ r ∈ ks, KD K Z H r) ∧ ks.length ≤ 76 ∧ ∀ c : Nat, Cnt (ks.map (·.2)) c → Q (.int c) H)
def tLenSet (K : PySem.W.Frag) (ta : TE) : TE := fun σ H Q => ta σ H fun x H1 => rLenSet K x H1 Q
theorem pe_lenSet {X : Cx} {K : PySem.W.Frag} {a : Expr} {ta : TE} {p p2 q pos : Pos} (hu : X.A.units + 64 < cLine) (hm : X.mg "len" = none) (hm2 : X.mg "set" = none) (ha : PE X a ta) (hc : X.calm = true := by rfl) (hg : Gl X "len" := by rfl) (hg2 : Gl X "set" := by rfl)
    (na : starEach [a] X.env = (false, eval a X.env) :: starEach [] X.env := by rfl) (hK : X.K = K := by rfl) : PE X (.Call (.Name "len" p) [.Call (.Name "set" p2) [a] [] q] [] pos) (tLenSet K ta) := by
  subst hK
  refine ⟨fun pins s σ H Q I h => ?_⟩
  refine Call_ (ld_blt I hg hm PySem.boot_len ?_)
  refine callWith_builtin1 (args_cons ?_ rfl) rfl rfl
  refine Call_ (ld_blt I hg2 hm2 boot_set ?_)
  refine callWith_type1 (args_cons (thn (ha.run pins s σ H _ I h) fun v s1 ⟨x, H1, I1, r1, q1⟩ => args_nil ?_) na) na rfl
  obtain ⟨l, rfl, q1⟩ := q1
  cases r1
  have both : ∀ {ys : List V}, (SqL X.K H1 l ys ∨ SqT X.K H1 l ys) → ∃ its : List Value, Vals ys its ∧ (s1.heap.IsList l its.toArray ∨ s1.heap.IsTuple l its.toArray) := fun {ys} h => by
    rcases h with h | h
    · obtain ⟨its, r, pl, _⟩ := I1.list h
      exact ⟨its, r, .inl pl.isList⟩
    · obtain ⟨its, r, pl, _⟩ := I1.tuple h
      exact ⟨its, r, .inr pl⟩
  rcases q1 with ⟨xs, sq, few, q1⟩ | ⟨ks, Z, sq, hk, few, q1⟩
  · obtain ⟨its, r, il⟩ := both sq
    refine callSetTxt xs (I1.ok.hd hc) il (by simpa using vals_txt r) few fun h' tk M c so g kp => ?_
    refine args_nil ?_
    obtain ⟨o, es, ep, t, ho, hex, hd, _, _, _, hf, hn⟩ := so
    have I2 : Inv X pins σ H1 { s1 with heap := h', toks := tk } := I1.kept kp
    have small : c ≤ xs.length := by
      by_cases z : xs.Nodup
      · rw [g.2.uniq (.nodup z)]; exact Nat.le_refl _
      · exact Nat.le_of_lt (g.2.lt z)
    exact call_len_set ho hex hd hf (by rw [hn]; omega) ⟨.int c, H1, I2.tok _, ⟨_, by rw [hn]⟩, q1 c g.2⟩
  · obtain ⟨its, r, il⟩ := both sq
    refine callSet (P := X.prog) (w := X.w) ks (I1.ok.hd hc) il (by simpa using vals_ref r) (fun r hr => (hk r hr).at_ I1) few (by omega) fun h' tk L es ep t sn g kp => ?_
    refine args_nil ?_
    obtain ⟨o, ho, hex, hd⟩ := sn.obj
    have I2 : Inv X pins σ H1 { s1 with heap := h', toks := tk } := I1.kept kp
    have hn := rws_len sn.lines
    exact call_len_set ho hex hd (SN.fit (s := { s1 with heap := h' }) sn) (by rw [hn]; have := sn.bound; omega) ⟨.int L.length, H1, I2.tok _, ⟨_, by rw [hn]⟩, q1 _ (g.cnt sn.apart)⟩
end N17

set_option Elab.async false
set_option linter.all false
set_option autoImplicit false
set_option maxRecDepth 100000
set_option maxHeartbeats 4000000
/-! # zip of a text and a tuple -/
namespace N17
open PySem PySem.Spec PyProof.Rows L2 RZ
section
variable {prog : Program} {w : World} {A : Around} {E : Value → Shared → Prop} {s : Shared}
/-- what a zip over the text x and the tuple at l keeps: its pair of ways, its pair of items -/
structure ZST (h : Heap) (z p q i j l : Addr) (x : Str) (t : Tok) (k : Nat) : Prop where
  zip : IsZip h z p q .none
  ways : IsPair h p (.ref i) (.ref j)
  kept : ∃ a b, IsPair h q a b
  txt : h.IsStrIter i "str_ascii_iterator" x t k
  tup : h.IsTupleIter j l k
theorem str_at {h h' : Heap} {i : Addr} {x : Str} {t : Tok} {k : Nat} (y : h.IsStrIter i "str_ascii_iterator" x t k) (f : ∀ o, h.get? i = some o → h'.get? i = some o) : h'.IsStrIter i "str_ascii_iterator" x t k :=
  let ⟨o, ho, r⟩ := y
  ⟨o, f o ho, r⟩
theorem st_item {z p q i j l : Addr} {x : Str} {t : Tok} {k c : Nat} {ys : Array Value} {y : Value} {Q : Value → Shared → Prop} (D : ZipApart z p q i j l l) (Z : ZST s.heap z p q i j l x t k) (hl : s.heap.IsTuple l ys) (hx : x.cps[k]? = some c) (hy : ys[k]? = some y)
    (hQ : ∀ (h' : Heap) (u : Tok) (tk : Nat), IsZip h' z p q (rawInt s.heap.objs.size) → IsPair h' q (.str ⟨#[c]⟩ u) y → h'.IsStrIter i "str_ascii_iterator" x t (k + 1) → h'.IsTupleIter j l (k + 1) → IsPair h' s.heap.objs.size (.str ⟨#[c]⟩ u) y → h'.objs.size = s.heap.objs.size + 1 →
      (∀ d o, d ≠ z → d ≠ q → d ≠ i → d ≠ j → s.heap.get? d = some o → h'.get? d = some o) → Q (.ref s.heap.objs.size) { s with heap := h', toks := tk }) :
    wpAny (model prog w) A (Builtin.«zip.__next__» ⟨[.ref z], []⟩) (fun fin s' => ∃ v, fin = .done (.ret v) ∧ Q v s') E s := by
  obtain ⟨hz, hp, ⟨a, b, hq⟩, h1, h2⟩ := Z
  show wpAny _ _ (field (.ref z) 2 >>= _) _ _ _
  refine wpAny_bind (wpAny_field hz rfl (x := Value.bool false) rfl ?_)
  show wpAny _ _ (field (.ref z) 3 >>= _) _ _ _
  refine wpAny_bind (wpAny_field hz rfl (x := Value.ref p) rfl (wpAny_bind (wpAny_seqItems hp rfl ?_)))
  show wpAny _ _ (Builtin.SmallTypes.ownedTupleIsFree (.ref z) >>= _) _ _ _
  refine wpAny_bind ?_
  unfold Builtin.SmallTypes.ownedTupleIsFree
  refine wpAny_bind (wpAny_field hz rfl (x := Value.none) rfl (wpAny_pure ?_))
  simp only [if_true]
  refine wpAny_bind (wpAny_rule (wpAny_bind (wpAny_field hz rfl (x := Value.ref q) rfl (wpAny_bind (wpAny_setField_rec hz (by simp) fun ha za sa => ?_)))))
  have za : IsZip ha z p q .ellipsis := za
  refine wpAny_bind ?_
  simp only [List.zipIdx_cons, List.zipIdx_nil, List.forIn_cons, List.forIn_nil]
  refine wpAny_bind (wpAny_bind (wpAny_onRaise ?_))
  show wpAny _ _ (Builtin.SmallTypes.nextOf (.ref i) >>= _) _ _ _
  refine wpAny_bind (wpAny_nextOf_ascii_item (s := { s with heap := ha }) (h1.extBut sa.extBut D.i1z) hx fun hb i1b sb => wpAny_pure ?_)
  have qb : IsPair hb q a b := sb.extBut _ _ D.TOi1 (sa.extBut _ _ D.TOz hq)
  refine wpAny_bind (wpAny_seqItems qb rfl (wpAny_bind (wpAny_updateSeq_pair qb fun hc qc sc => ?_)))
  have qc : IsPair hc q (.str ⟨#[c]⟩ s.toks) b := qc
  refine wpAny_bind (wpAny_letGo (wpAny_pure (wpAny_bind (wpAny_bind (wpAny_onRaise ?_)))))
  show wpAny _ _ (Builtin.SmallTypes.nextOf (.ref j) >>= _) _ _ _
  have jc : hc.IsTupleIter j l k := ((h2.extBut sa.extBut D.i2z).extBut sb.extBut D.i12.symm).extBut sc.extBut D.TOi2.symm
  have lc : hc.IsTuple l ys := ((hl.extBut sa.extBut D.l1z).extBut sb.extBut D.l1i1).extBut sc.extBut D.l1TO
  refine wpAny_bind (nextOf_tuple_item (s := { s with heap := hc, toks := s.toks + 1 }) jc lc hy fun hd jd sd => wpAny_pure ?_)
  have qd : IsPair hd q (.str ⟨#[c]⟩ s.toks) b := sd.extBut _ _ D.TOi2 qc
  refine wpAny_bind (wpAny_seqItems qd rfl (wpAny_bind (wpAny_updateSeq_pair qd fun he qe se => ?_)))
  have qe : IsPair he q (.str ⟨#[c]⟩ s.toks) y := qe
  refine wpAny_bind (wpAny_letGo (wpAny_pure (wpAny_pure (wpAny_bind (wpAny_seqItems qe rfl (wpAny_bind (wpAny_newTuple ?_)))))))
  have sz : he.objs.size = s.heap.objs.size := by rw [se.1, sd.1, sc.1, sb.1, sa.1]
  have ze : IsZip he z p q .ellipsis := se.extBut _ _ D.TOz.symm (sd.extBut _ _ D.i2z.symm (sc.extBut _ _ D.TOz.symm (sb.extBut _ _ D.i1z.symm za)))
  have ke : ∀ d o, d ≠ z → d ≠ q → d ≠ i → d ≠ j → s.heap.get? d = some o → he.get? d = some o := fun d o d1 d2 d3 d4 g =>
    se.extBut _ _ d2 (sd.extBut _ _ d4 (sc.extBut _ _ d2 (sb.extBut _ _ d3 (sa.extBut _ _ d1 g))))
  have ie : he.IsStrIter i "str_ascii_iterator" x t (k + 1) := ((i1b.extBut sc.extBut D.TOi1.symm).extBut sd.extBut D.i12).extBut se.extBut D.TOi1.symm
  have je : he.IsTupleIter j l (k + 1) := jd.extBut se.extBut D.TOi2.symm
  have zl : z < he.objs.size := Heap.lt_size ze
  show wpAny _ _ (Builtin.SmallTypes.ownedTupleHandOut (.ref z) (.ref he.objs.size) >>= _) _ _ _
  refine wpAny_bind ?_
  unfold Builtin.SmallTypes.ownedTupleHandOut
  have zf : IsZip (he.push { cls := .type "tuple", data := .seq #[.str ⟨#[c]⟩ s.toks, y] }) z p q .ellipsis := Heap.get?_push_of_some _ ze
  refine wpAny_bind (wpAny_setField_rec zf (by simp) fun hg zg sg => ?_)
  have zg : IsZip hg z p q (rawInt he.objs.size) := zg
  refine wpAny_setField_rec zg (by simp) fun hh zh sh => ?_
  have zh : IsZip hh z p q (rawInt he.objs.size) := zh
  have up : ∀ d o, d ≠ z → he.get? d = some o → hh.get? d = some o := fun d o d1 g => sh.extBut _ _ d1 (sg.extBut _ _ d1 (Heap.get?_push_of_some _ g))
  have th : IsPair hh he.objs.size (.str ⟨#[c]⟩ s.toks) y := sh.extBut _ _ (Nat.ne_of_gt zl) (sg.extBut _ _ (Nat.ne_of_gt zl) (Heap.get?_push_size _ rfl))
  have sz2 : hh.objs.size = he.objs.size + 1 := by rw [sh.1, sg.1, Heap.size_push]
  rw [sz] at zh th sz2
  refine wpAny_pure ⟨_, rfl, ?_⟩
  show Q (.ref he.objs.size) _
  rw [sz]
  exact hQ hh s.toks (s.toks + 1) zh (up _ _ D.TOz qe) (str_at ie fun o g => up _ o D.i1z g) (je.at fun o g => up _ o D.i2z g) th sz2 fun d o d1 d2 d3 d4 g => up d o d1 (ke d o d1 d2 d3 d4 g)
theorem st_end {z p q i j l : Addr} {x : Str} {t : Tok} {k : Nat} {ys : Array Value} {Q : PySem.Fin → Shared → Prop} (hh : A.handled = none) (D : ZipApart z p q i j l l) (Z : ZST s.heap z p q i j l x t k) (hl : s.heap.IsTuple l ys) (hx : x.cps[k]? = none)
    (hE : ∀ h' e, (∀ d o, d ≠ z → d ≠ q → d ≠ i → d ≠ j → s.heap.get? d = some o → h'.get? d = some o) → (∃ o, h'.get? e = some o ∧ o.cls = .type "StopIteration") → E (.ref e) { s with heap := h' }) :
    wpAny (model prog w) A (Builtin.«zip.__next__» ⟨[.ref z], []⟩) Q E s := by
  obtain ⟨hz, hp, ⟨a, b, hq⟩, h1, h2⟩ := Z
  show wpAny _ _ (field (.ref z) 2 >>= _) _ _ _
  refine wpAny_bind (wpAny_field hz rfl (x := Value.bool false) rfl ?_)
  show wpAny _ _ (field (.ref z) 3 >>= _) _ _ _
  refine wpAny_bind (wpAny_field hz rfl (x := Value.ref p) rfl (wpAny_bind (wpAny_seqItems hp rfl ?_)))
  show wpAny _ _ (Builtin.SmallTypes.ownedTupleIsFree (.ref z) >>= _) _ _ _
  refine wpAny_bind ?_
  unfold Builtin.SmallTypes.ownedTupleIsFree
  refine wpAny_bind (wpAny_field hz rfl (x := Value.none) rfl (wpAny_pure ?_))
  simp only [if_true]
  refine wpAny_bind (wpAny_rule (wpAny_bind (wpAny_field hz rfl (x := Value.ref q) rfl (wpAny_bind (wpAny_setField_rec hz (by simp) fun ha za sa => ?_)))))
  have za : IsZip ha z p q .ellipsis := za
  refine wpAny_bind ?_
  simp only [List.zipIdx_cons, List.zipIdx_nil, List.forIn_cons, List.forIn_nil]
  refine wpAny_bind (wpAny_bind (wpAny_onRaise ?_))
  show wpAny _ _ (Builtin.SmallTypes.nextOf (.ref i) >>= _) _ _ _
  refine wpAny_bind (wpAny_nextOf_ascii_end (s := { s with heap := ha }) hh (h1.extBut sa.extBut D.i1z) hx fun hb e sb ho => ?_)
  obtain ⟨o, ho, hc⟩ := ho
  have zb : IsZip hb z p q .ellipsis := sb _ _ D.i1z.symm za
  have ez : e ≠ z := fun r => by
    rw [r, zb] at ho
    cases ho
    simp at hc
  exact wpAny_setField_rec zb (by simp) fun hd _ sd => hE hd e (fun d u d1 _ d3 _ g => sd.extBut _ _ d1 (sb _ _ d3 (sa.extBut _ _ d1 g))) ⟨o, sd.extBut _ _ ez ho, hc⟩
end
section
variable {prog : Program} {w : World} {A : Around} {E : Value → Shared → Prop} {s : Shared}
theorem next_st {z p q i j l : Addr} {x : Str} {t : Tok} {k c : Nat} {ys : Array Value} {y : Value} {Q : Option Value → Shared → Prop} (D : ZipApart z p q i j l l) (Z : ZST s.heap z p q i j l x t k) (hl : s.heap.IsTuple l ys) (hx : x.cps[k]? = some c) (hy : ys[k]? = some y)
    (hQ : ∀ (h' : Heap) (u : Tok) (tk : Nat), IsZip h' z p q (rawInt s.heap.objs.size) → IsPair h' q (.str ⟨#[c]⟩ u) y → h'.IsStrIter i "str_ascii_iterator" x t (k + 1) → h'.IsTupleIter j l (k + 1) → IsPair h' s.heap.objs.size (.str ⟨#[c]⟩ u) y → h'.objs.size = s.heap.objs.size + 1 →
      (∀ d o, d ≠ z → d ≠ q → d ≠ i → d ≠ j → s.heap.get? d = some o → h'.get? d = some o) → Q (some (.ref s.heap.objs.size)) { s with heap := h', toks := tk }) :
    wpAny (model prog w) A (pyNext (.ref z)) Q E s := by
  have ty : s.TypeIs (.ref z) "zip" := ⟨_, Z.zip, rfl⟩
  unfold pyNext
  refine wpAny_bind (wpAny_attempt (wpAny_callSpecial?_slot (name := Str.ofString "__next__") ty F.slot_zip_next (wpAny_call_entry F.slot_zip_next ty F.entry_zip_next ?_ (F.args_zip_next_1 _))))
  exact st_item D Z hl hx hy fun h' u tk b1 b2 b3 b4 b5 b6 b7 => wpAny_pure (hQ h' u tk b1 b2 b3 b4 b5 b6 b7)
theorem stop_st {z p q i j l : Addr} {x : Str} {t : Tok} {k : Nat} {ys : Array Value} {Q : Option Value → Shared → Prop} (hh : A.handled = none) (D : ZipApart z p q i j l l) (Z : ZST s.heap z p q i j l x t k) (hl : s.heap.IsTuple l ys) (hx : x.cps[k]? = none)
    (hQ : ∀ h', (∀ d o, d ≠ z → d ≠ q → d ≠ i → d ≠ j → s.heap.get? d = some o → h'.get? d = some o) → Q none { s with heap := h' }) : wpAny (model prog w) A (pyNext (.ref z)) Q E s := by
  have ty : s.TypeIs (.ref z) "zip" := ⟨_, Z.zip, rfl⟩
  unfold pyNext
  refine wpAny_bind (wpAny_attempt (wpAny_callSpecial?_slot (name := Str.ofString "__next__") ty F.slot_zip_next (wpAny_call_entry F.slot_zip_next ty F.entry_zip_next ?_ (F.args_zip_next_1 _))))
  refine st_end hh D Z hl hx fun h' e hk ⟨o, ho, hc⟩ => ?_
  exact wpAny_bind (wpAny_isInstance (T := "StopIteration") (b := true) ⟨o, ho, hc⟩ isSubtype_stop (wpAny_pure (hQ _ hk)))
abbrev stH1 (h : Heap) (x : Str) (t : Tok) : Heap := h.push { cls := .type "str_ascii_iterator", data := .fields #[.str x t, .int 0 0] }
abbrev stH2 (h : Heap) (x : Str) (t : Tok) (l : Addr) : Heap := (stH1 h x t).push { cls := .type "tuple_iterator", data := .fields #[.ref l, .int 0 0] }
abbrev stH3 (h : Heap) (x : Str) (t : Tok) (l : Addr) : Heap := (stH2 h x t l).push { cls := .type "tuple", data := .seq #[.ref h.objs.size, .ref (stH1 h x t).objs.size] }
abbrev stH4 (h : Heap) (x : Str) (t : Tok) (l : Addr) : Heap := (stH3 h x t l).push { cls := .type "tuple", data := .seq #[.none, .none] }
abbrev stH5 (h : Heap) (x : Str) (t : Tok) (l : Addr) : Heap := (stH4 h x t l).push { cls := .type "zip", data := .fields #[.none, .bool false, .bool false, .ref (stH2 h x t l).objs.size, .ref (stH3 h x t l).objs.size] }
theorem meets_st (x : Str) (t : Tok) (l : Addr) (ys : Array Value) (hx : x.cps.all (· < 128) = true) :
    Meets (Builtin.«zip.__new__» ⟨[.type "zip", .str x t, .ref l], []⟩) (fun _ R s => s.heap.IsTuple l ys ∧ R (.ok (.ret (.ref (stH4 s.heap x t l).objs.size))) { s with heap := stH5 s.heap x t l }) :=
  .of_wp fun prog w A R s h => by
    obtain ⟨hp, g, d, tk, os⟩ := s
    obtain ⟨hl, h⟩ := h
    have sub_ := sub_zip
    have hl2 : Heap.IsTuple (Shared.heap ⟨hp.push { cls := .type "str_ascii_iterator", data := .fields #[.str x t, .int 0 0] }, g, d, tk, os⟩) l ys := Heap.IsTuple.push hl _
    wp_walk using wpAny_pyIter_ascii hx, wpAny_pyIter_tuple hl2
    exact ⟨_, rfl, h⟩
theorem call_st {x : Str} {t : Tok} {l : Addr} {ys : Array Value} {Q : Value → Shared → Prop} (hx : x.cps.all (· < 128) = true) (hl : s.heap.IsTuple l ys)
    (h : ∀ h', ZST h' (s.heap.objs.size + 4) (s.heap.objs.size + 2) (s.heap.objs.size + 3) s.heap.objs.size (s.heap.objs.size + 1) l x t 0 → (∀ d o, s.heap.get? d = some o → h'.get? d = some o) → Q (.ref (s.heap.objs.size + 4)) { s with heap := h' }) :
    wpAny (model prog w) A (call (.type "zip") [.str x t, .ref l]) Q E s := by
  refine callType_new F.called_zip (by decide) (F.typeCall_zip_2 _ _) (F.newCall_zip_2 _ _) (fun o => F.args_object_init_3 o _ _) F.entry_zip_new (meets_st x t l ys hx) ⟨hl, ?_⟩
  have n1 : (stH1 s.heap x t).objs.size = s.heap.objs.size + 1 := Heap.size_push ..
  have n2 : (stH2 s.heap x t l).objs.size = s.heap.objs.size + 2 := by rw [Heap.size_push, n1]
  have n3 : (stH3 s.heap x t l).objs.size = s.heap.objs.size + 3 := by rw [Heap.size_push, n2]
  have n4 : (stH4 s.heap x t l).objs.size = s.heap.objs.size + 4 := by rw [Heap.size_push, n3]
  have o5 : (stH5 s.heap x t l).get? (stH4 s.heap x t l).objs.size = some _ := Heap.get?_push_size _ rfl
  have o4 : (stH5 s.heap x t l).get? (stH3 s.heap x t l).objs.size = some _ := Heap.get?_push_of_some _ (Heap.get?_push_size _ rfl)
  have o3 : (stH5 s.heap x t l).get? (stH2 s.heap x t l).objs.size = some _ := Heap.get?_push_of_some _ (Heap.get?_push_of_some _ (Heap.get?_push_size _ rfl))
  have o2 : (stH5 s.heap x t l).get? (stH1 s.heap x t).objs.size = some _ := Heap.get?_push_of_some _ (Heap.get?_push_of_some _ (Heap.get?_push_of_some _ (Heap.get?_push_size _ rfl)))
  have o1 : (stH5 s.heap x t l).get? s.heap.objs.size = some _ := Heap.get?_push_of_some _ (Heap.get?_push_of_some _ (Heap.get?_push_of_some _ (Heap.get?_push_of_some _ (Heap.get?_push_size _ rfl))))
  show _ ∧ _
  rw [n2, n3, n4] at o5
  rw [n1, n2] at o3
  rw [n3] at o4
  rw [n1] at o2
  rw [n4]
  exact ⟨⟨_, o5, rfl⟩, h _ ⟨o5, o3, ⟨_, _, o4⟩, ⟨_, o1, rfl, rfl⟩, ⟨_, o2, rfl, rfl⟩⟩ fun d o g => Heap.get?_push_of_some _ (Heap.get?_push_of_some _ (Heap.get?_push_of_some _ (Heap.get?_push_of_some _ (Heap.get?_push_of_some _ g))))⟩
end
/-- the signs of x with the items of the tuple at b -/
def ItzS (K : PySem.W.Frag) (x : Str) (b : Addr) : It :=
  ⟨fun i H => ∃ (ys : List V) (c : Nat) (y : V), SqT K H b ys ∧ x.cps[i]? = some c ∧ ys[i]? = some y,
    fun i H v H' => ∃ T c y, v = .ref T ∧ H T = none ∧ H' = upd H T (.tup [.str ⟨#[c]⟩, y]) ∧ x.cps[i]? = some c ∧ ∀ ys, SqT K H b ys → ys[i]? = some y,
    fun i H => (∃ ys : List V, SqT K H b ys) ∧ x.cps[i]? = none⟩
theorem turn_st {P : Program} {w : World} {K : PySem.W.Frag} {elts : List Expr} {kk : Nat} {tpos : Pos} {x : Str} {t : Tok} {b z p q i1 i2 : Addr} (D : ZipApart z p q i1 i2 b b) :
    Turn P w K (.Tuple elts kk tpos) (ItzS K x b) [z, p, q, i1, i2] z (fun i h => ZST h z p q i1 i2 b x t i) where
  mem := by simp
  obj := fun i h st c hc => by
    obtain ⟨hz, hp, ⟨u, v, hq⟩, ⟨o1, e1, _, d1⟩, ⟨o2, e2, _, d2⟩⟩ := st
    have five : c = z ∨ c = p ∨ c = q ∨ c = i1 ∨ c = i2 := by simpa using hc
    rcases five with g | g | g | g | g
    · rw [g]; exact ⟨_, hz, fun v z => nomatch z⟩
    · rw [g]; exact ⟨_, hp, fun v z => nomatch z⟩
    · rw [g]; exact ⟨_, hq, fun v z => nomatch z⟩
    · rw [g]; exact ⟨o1, e1, fun v z => by rw [d1] at z; cases z⟩
    · rw [g]; exact ⟨o2, e2, fun v z => by rw [d2] at z; cases z⟩
  keep := fun i h h' st k => by
    obtain ⟨hz, hp, ⟨u, v, hq⟩, h1, h2⟩ := st
    exact ⟨k z (by simp) _ hz, k p (by simp) _ hp, ⟨u, v, k q (by simp) _ hq⟩, str_at h1 fun o g => k i1 (by simp) o g, h2.at fun o g => k i2 (by simp) o g⟩
  item := by
    intro X hP hw hK hc i pins s σ H E I hf st hg
    subst hP hw hK
    obtain ⟨ys, c, y, sq, hx, hy⟩ := hg
    obtain ⟨its, rv, il, _⟩ := I.tuple sq
    obtain ⟨u, hu, ru⟩ := rv.get hy
    have zl : z < s.heap.objs.size := Heap.lt_size st.zip
    have lo : ∀ d ∈ [z, p, q, i1, i2], d < s.heap.objs.size := fun d hd => by
      have five : d = z ∨ d = p ∨ d = q ∨ d = i1 ∨ d = i2 := by simpa using hd
      rcases five with g | g | g | g | g
      · rw [g]; exact zl
      · rw [g]; exact Heap.lt_size st.ways
      · rw [g]; obtain ⟨_, _, e⟩ := st.kept; exact Heap.lt_size e
      · rw [g]; obtain ⟨_, e, _⟩ := st.txt; exact Heap.lt_size e
      · rw [g]; obtain ⟨_, e, _⟩ := st.tup; exact Heap.lt_size e
    refine next_st D st il hx (y := u) (by simpa using hu) fun h' k tk z1 q1 s1 j1 T1 _ hk => ?_
    refine ⟨_, rfl, wpAny_letOwnedTupleGo_zip (s := { s with heap := h', toks := tk }) z1 fun h2 z2 sb => ?_⟩
    have T2 : h2.get? s.heap.objs.size = some { cls := .type "tuple", data := .seq #[.str ⟨#[c]⟩ k, u] } := (sb.2 _ (Nat.ne_of_gt zl)).trans T1
    have fresh : ObjOk X.prog X.w (upd H s.heap.objs.size (.tup [.str ⟨#[c]⟩, y])) h2 s.heap.objs.size (.tup [.str ⟨#[c]⟩, y]) :=
      ⟨by show 2 ≤ sizeLine; decide, [.str ⟨#[c]⟩ k, u], .cons ⟨k, rfl⟩ (.cons ru .nil), ⟨_, T2, rfl, _, rfl⟩⟩
    have I1 : Inv X pins σ (upd H s.heap.objs.size (.tup [.str ⟨#[c]⟩, y])) { s with heap := h2, toks := tk } :=
      I.turnedNew (ch := [z, p, q, i1, i2]) (fun d o hb g => (sb.2 d (fun r => hb (by simp [r]))).trans (hk d o (fun r => hb (by simp [r])) (fun r => hb (by simp [r])) (fun r => hb (by simp [r])) (fun r => hb (by simp [r])) g)) hf (Nat.le_refl _) fresh
    refine ⟨.ref s.heap.objs.size, _, I1, rfl, ⟨_, c, y, rfl, I.hok.fresh (Nat.le_refl _), rfl, hx, fun l hl => by rw [I.tuple_inj hl sq]; exact hy⟩, ⟨z2, ?_, ⟨.str ⟨#[c]⟩ k, u, ?_⟩, ?_, ?_⟩, fun d hd => ?_⟩
    · exact (sb.2 _ D.TIz).trans (hk _ _ D.TIz D.TITO D.TIi1 D.TIi2 st.ways)
    · exact (sb.2 _ D.TOz).trans q1
    · exact str_at s1 fun o g => (sb.2 _ D.i1z).trans g
    · exact j1.at fun o g => (sb.2 _ D.i2z).trans g
    · rw [upd_ne (Nat.ne_of_lt (lo d hd))]
      exact (hf d hd).1
  done := by
    intro X hP hw hK hc i pins s σ H E I hf st hg
    subst hP hw hK
    obtain ⟨⟨ys, sq⟩, hx⟩ := hg
    obtain ⟨its, rv, il, _⟩ := I.tuple sq
    exact stop_st (I.ok.hd hc) D st il hx fun h' hk => ⟨rfl, I.turnedL (t' := s.toks) (ch := [z, p, q, i1, i2]) (fun d o hb g =>
      hk d o (fun r => hb (by simp [r])) (fun r => hb (by simp [r])) (fun r => hb (by simp [r])) (fun r => hb (by simp [r])) g) hf⟩
  self := fun A i s Q E st h => wpAny_pyIter_zip st.zip h
def iZipS (K : PySem.W.Frag) (ta : TA) : TI := fun σ H R => ta σ H fun vs H1 => ∃ (x : Str) (b : Addr) (ys : List V), vs = [.str x, .ref b] ∧ x.cps.all (· < 128) = true ∧ SqT K H1 b ys ∧ R (ItzS K x b) H1
theorem pi_zipS {X : Cx} {K : PySem.W.Frag} {e e2 : Expr} {ta : TA} {p pos tpos : Pos} {elts : List Expr} {kk : Nat} (hg : Gl X "zip") (hm : X.mg "zip" = none) (ha : PA X [e, e2] ta) (hK : X.K = K := by rfl)
    (hs : starEach [e, e2] X.env = (false, eval e X.env) :: starEach [e2] X.env := by rfl) (hpl : (backTo pos (starEach [e2] X.env)).any (·.1) = false := by rfl) :
    PI X (.Tuple elts kk tpos) (.Call (.Name "zip" p) [e, e2] [] pos) (iZipS K ta) := by
  subst hK
  refine ⟨fun pins s σ H R I h => ?_⟩
  refine Call_ (ld_blt I hg hm PyProof.Rows.boot_zip (PyProof.Rows.callWith_type1 (thn (ha.run pos pins s σ H _ I h) fun us s1 ⟨vs, H1, I1, r1, q1⟩ => ?_) hs hpl))
  obtain ⟨x, b, ys, rfl, al, sq, q1⟩ := q1
  obtain ⟨its, rv, il, _⟩ := I1.tuple sq
  cases r1 with
  | cons r rr =>
    cases rr with
    | cons r' rr =>
      cases rr
      cases r'
      obtain ⟨t, rfl⟩ := r
      have new5 : ∀ d, d ∈ [s1.heap.objs.size + 4, s1.heap.objs.size + 2, s1.heap.objs.size + 3, s1.heap.objs.size, s1.heap.objs.size + 1] → FpOk X pins H1 d := fun d hd => by
        have five : d = s1.heap.objs.size + 4 ∨ d = s1.heap.objs.size + 2 ∨ d = s1.heap.objs.size + 3 ∨ d = s1.heap.objs.size ∨ d = s1.heap.objs.size + 1 := by simpa using hd
        have le : s1.heap.objs.size ≤ d := by omega
        exact I1.fpOk le (I1.hok.fresh le)
      obtain ⟨o, ho, _⟩ := id il
      refine call_st al (show s1.heap.IsTuple b its.toArray from il) fun h' Z hk => wpAny_pyIter_zip Z.zip ?_
      have I2 : Inv X pins σ H1 { s1 with heap := h' } := I1.kept (t' := s1.toks) hk
      exact ⟨s1.heap.objs.size + 4, [s1.heap.objs.size + 4, s1.heap.objs.size + 2, s1.heap.objs.size + 3, s1.heap.objs.size, s1.heap.objs.size + 1], _, _, H1, rfl, I2, turn_st (PySem.W.ktu_apart s1.heap.objs.size b b (Heap.lt_size ho) (Heap.lt_size ho)), Z, new5, q1⟩
end N17

set_option Elab.async false
set_option linter.all false
set_option autoImplicit false
set_option maxRecDepth 100000
set_option maxHeartbeats 4000000
/-! # statements that are never reached; setdefault with tuple keys and own lists; a dict of lists; facts that stay -/
namespace U
open PySem PySem.Spec PyProof.Rows L2
/-! ## never reached -/
def tNo : TS := fun _ _ _ => False
def tNoE : TE := fun _ _ _ => False
theorem ps_no {X : Cx} {st : Stmt} : PS X st tNo := ⟨fun _ _ _ _ _ _ h => h.elim⟩
theorem pss_no {X : Cx} {st : List Stmt} : PSs X st tNo := ⟨fun _ _ _ _ _ _ h => h.elim⟩
theorem pe_no {X : Cx} {e : Expr} : PE X e tNoE := ⟨fun _ _ _ _ _ _ h => h.elim⟩
/-! ## a fact that stays -/
structure Stay (Φ : List Addr → Hp → Prop) : Prop where
  im : ∀ Z H H', Φ Z H → Im Z H H' → Φ Z H'
  zs : ∀ Z Z' H, Z ⊆ Z' → Φ Z H → Φ Z' H
def Ent.fa (Φ : List Addr → Hp → Prop) (m : Stay Φ) : Ent := ⟨9, [], false, Φ, fun Z H H' p _ i => m.im Z H H' p i, m.zs, fun _ _ _ a ha => by cases ha⟩
section
variable {K : PySem.W.Frag} {B : Bs} {H H' : Hp} {Z Z' : List Addr} {L L' : List Ent} {M : List (List V × List PyData)} {F : Ent → List Ent}
theorem Hs.fa {Φ : List Addr → Hp → Prop} (h : Hs K B Z H L M) (m : Stay Φ) (p : Φ Z H) : Hs K B Z H (.fa Φ m :: L) M :=
  h.ent (.fa Φ m) p (fun _ _ a ha => by cases ha) (fun a ha => by cases ha) fun z => (by cases z)
end
/-! ## setdefault -/
section
variable {X : Cx} {pins : List (Addr × Obj)} {σ : L2.St} {H : Hp} {s : Shared} {a b : Addr} {r : Value} {d : V} {k : List Key} {A : Around} {E : Value → Shared → Prop}
theorem d_setdT {kvs : List (List Key × V)} {Q : Value → Shared → Prop} (hu : A.units + 1 < cLine) (I : Inv X pins σ H s) (e : H a = some (.dT kvs)) (eb : H b = some (.tup (k.map kV))) (rd : RelV d r) (hl : kvs.length < sizeLine)
    (old : ∀ v, valV kvs k = some v → ∀ (w' : Value) (s' : Shared), Inv X pins σ H s' → RelV v w' → Q w' s')
    (new : valV kvs k = none → ∀ (w' : Value) (s' : Shared), Inv X pins σ (upd H a (.dT (putK kvs k d))) s' → RelV d w' → Q w' s') : wpAny (model X.prog X.w) A (call (.builtin "dict.setdefault") [.ref a, .ref b, r]) Q E s := by
  obtain ⟨z, lo, xs, rel, dd⟩ := dt_of I.hok e
  have zx : xs.length ≤ sizeLine := by rw [← Paired.length rel]; exact z
  have vq := rel.val k
  refine call_setdefault_heap (hsz := zx) (tupleKind_room_in1 hu) (key_of I.hok eb) lo dd (fun p hp => ?_) fun hn h' dd' sb => ?_
  · rw [hp] at vq
    cases q0 : valV kvs k with
    | none =>
      rw [q0] at vq
      exact (show False from vq).elim
    | some v0 =>
      rw [q0] at vq
      exact old v0 q0 _ _ (I.tok _) vq
  · rw [hn] at vq
    cases q0 : valV kvs k with
    | some v0 =>
      rw [q0] at vq
      exact (show False from vq).elim
    | none =>
      have zl : (putK kvs k d).length ≤ sizeLine := by have := length_putK kvs k d; omega
      obtain ⟨o, es, ep, ho, p2, p3, p4, _, p5⟩ := dd'
      refine new q0 _ _ (d_write I (by rw [e]; exact True.intro) sb ⟨o, ho⟩ ⟨zl, lo, _, (rel.put k eb rd).keeps fun c ys ec => ?_, o, es, ep, ho, p2, p3, p4, p5⟩) rd
      rw [upd_ne (ne_of ec e (fun z => nomatch z))]
      exact ec
end
def DsT (a : Addr) (y z : V) (H : Hp) (Q : VK) : Prop := ∃ (kvs : List (List Key × V)) (k : List Key) (b : Addr), H a = some (.dT kvs) ∧ y = .ref b ∧ H b = some (.tup (k.map kV)) ∧ kvs.length < sizeLine ∧ (∀ v, valV kvs k = some v → Q v H) ∧ (valV kvs k = none → Q z (upd H a (.dT (putK kvs k z))))
def tDSetT (td ty tx : TE) : TE := fun σ H Q => td σ H fun x H1 => DgA x H1 fun a => ty σ H1 fun y H2 => tx σ H2 fun z H3 => DsT a y z H3 Q
section
variable {X : Cx} {o e f : Expr} {td ty tx : TE} {apos cpos : Pos}
theorem pe_dsetT (hu : X.A.units + 1 < cLine) (ho : PE X o td) (he : PE X e ty) (hf : PE X f tx) (m : M2 X o "setdefault" apos e f cpos) : PE X (.Call (.Attribute o "setdefault" apos) [e, f] [] cpos) (tDSetT td ty tx) := by
  refine ⟨fun pins s σ H Q I h => ?_⟩
  refine wpAny_Call_method m.base m.few m.line PySem.F.plainAttrs_dict PySem.F.slot_dict_setdefault PySem.F.type_dict_setdefault (thn (ho.run pins s σ H _ I h) fun u s1 hx => ?_)
  obtain ⟨x, H1, I1, rx, a, rfl, d, q1⟩ := hx
  obtain rfl : u = Value.ref a := rx
  obtain ⟨t1, t2, _⟩ := isD_at I1 d
  refine ⟨t1, t2, ?_⟩
  rw [m.trees]
  refine Calls.callWith_builtin rfl (Calls.evalArgs_plain (Calls.spliced_cons (thn (he.run pins s1 σ H1 _ I1 q1) fun iv s2 hy => ?_)))
  obtain ⟨y, H2, I2, ry, q2⟩ := hy
  refine Calls.spliced_cons (thn (hf.run pins s2 σ H2 _ I2 q2) fun fv s3 hz => Calls.spliced_nil ?_)
  obtain ⟨z, H3, I3, rz, kvs, k, b, ea, rfl, eb, hl, old, new⟩ := hz
  obtain rfl : iv = Value.ref b := ry
  exact d_setdT hu I3 ea eb rz hl (fun v hv w' s4 I4 rw' => ⟨v, _, I4, rw', old v hv⟩) fun hn w' s4 I4 rw' => ⟨z, _, I4, rw', new hn⟩
end
/-! ## a dict from keys to lists of its own -/
inductive Fam (K : PySem.W.Frag) (Z : List Addr) (H : Hp) : List (List Key × V) → List (List Key × List PyData) → List Addr → Prop
  | nil : Fam K Z H [] [] []
  | cons {k : List Key} {l : Addr} {xs : List V} {ds : List PyData} {r : List (List Key × V)} {g : List (List Key × List PyData)} {ls : List Addr} : H l = some (.lst xs) → Dts K Z H xs ds → Fam K Z H r g ls → Fam K Z H ((k, .ref l) :: r) ((k, ds) :: g) (l :: ls)
section
variable {K : PySem.W.Frag} {Z Z' : List Addr} {H H' : Hp} {r : List (List Key × V)} {g : List (List Key × List PyData)} {ls : List Addr} {k : List Key}
theorem Fam.loc (h : Fam K Z H r g ls) (e : ∀ a ∈ ls, H' a = H a) (i : Im Z H H') : Fam K Z H' r g ls := by
  induction h with
  | nil => exact .nil
  | cons a d _ ih => exact .cons (by rw [e _ List.mem_cons_self]; exact a) (d.im i) (ih fun a ha => e a (List.mem_cons_of_mem _ ha))
theorem Fam.zs (h : Fam K Z H r g ls) (i : Z ⊆ Z') : Fam K Z' H r g ls := by
  induction h with
  | nil => exact .nil
  | cons a d _ ih => exact .cons a (d.zs i) ih
theorem Fam.live (h : Fam K Z H r g ls) : ∀ a ∈ ls, ∃ xs, H a = some (.lst xs) := by
  induction h with
  | nil => intro a ha; cases ha
  | cons e _ _ ih =>
    intro a ha
    rcases List.mem_cons.mp ha with q | ha
    · rw [q]; exact ⟨_, e⟩
    · exact ih a ha
theorem Fam.length (h : Fam K Z H r g ls) : r.length = g.length ∧ ls.length = g.length := by
  induction h with
  | nil => exact ⟨rfl, rfl⟩
  | cons _ _ _ ih => exact ⟨by simp [ih.1], by simp [ih.2]⟩
theorem Fam.val (h : Fam K Z H r g ls) (k : List Key) : (valV r k = none ∧ ∀ x ∈ g, x.1 ≠ k) ∨ ∃ (i : Nat) (l : Addr) (ds : List PyData), valV r k = some (.ref l) ∧ g[i]? = some (k, ds) ∧ ls[i]? = some l ∧ ∀ j < i, ∀ x, g[j]? = some x → x.1 ≠ k := by
  induction h with
  | nil => exact .inl ⟨rfl, fun _ z => by cases z⟩
  | @cons k' l xs ds r g ls a d _ ih =>
    by_cases e : k' = k
    · exact .inr ⟨0, l, ds, valV_pos e, by rw [← e]; rfl, rfl, fun j z => absurd z (Nat.not_lt_zero j)⟩
    · have e1 : valV ((k', .ref l) :: r) k = valV r k := valV_neg e
      rw [e1]
      rcases ih with ⟨q1, q2⟩ | ⟨i, l2, ds2, q1, q2, q3, q4⟩
      · refine .inl ⟨q1, fun x hx => ?_⟩
        rcases List.mem_cons.mp hx with z | z
        · rw [z]; exact e
        · exact q2 x z
      · refine .inr ⟨i + 1, l2, ds2, q1, q2, q3, fun j hj x hx => ?_⟩
        cases j with
        | zero =>
          obtain rfl : (k', ds) = x := Option.some.inj hx
          exact e
        | succ j => exact q4 j (by omega) x hx
theorem Fam.snoc {l : Addr} {xs : List V} {ds : List PyData} (h : Fam K Z H r g ls) (a : H l = some (.lst xs)) (d : Dts K Z H xs ds) : Fam K Z H (r ++ [(k, .ref l)]) (g ++ [(k, ds)]) (ls ++ [l]) := by
  induction h with
  | nil => exact .cons a d .nil
  | cons a1 d1 _ ih => exact .cons a1 d1 ih
theorem Fam.at_ (h : Fam K Z H r g ls) {i : Nat} {l : Addr} {x : List Key × List PyData} (e : g[i]? = some x) (el : ls[i]? = some l) : ∃ xs, H l = some (.lst xs) ∧ Dts K Z H xs x.2 := by
  induction h generalizing i with
  | nil => cases e
  | cons a d _ ih =>
    cases i with
    | zero =>
      cases e
      cases el
      exact ⟨_, a, d⟩
    | succ i => exact ih e el
theorem Fam.put {i : Nat} {l : Addr} {ds es : List PyData} {xs : List V} (h : Fam K Z H r g ls) (nd : ls.Nodup) (e : g[i]? = some (k, ds)) (el : ls[i]? = some l) (hk : ∀ a ∈ ls, a ≠ l → H' a = H a) (i' : Im Z H H') (a : H' l = some (.lst xs)) (d : Dts K Z H' xs es) : Fam K Z H' r (g.set i (k, es)) ls := by
  induction h generalizing i with
  | nil => cases e
  | @cons k' l1 xs1 ds1 r g ls a1 d1 h1 ih =>
    obtain ⟨n1, n2⟩ := List.nodup_cons.mp nd
    cases i with
    | zero =>
      cases e
      cases el
      exact .cons a d (h1.loc (fun b hb => hk b (List.mem_cons_of_mem _ hb) (fun z => n1 (z ▸ hb))) i')
    | succ i =>
      have el : ls[i]? = some l := el
      have ml : l ∈ ls := List.mem_of_getElem? el
      exact .cons (by rw [hk l1 List.mem_cons_self (fun z => n1 (z ▸ ml))]; exact a1) (d1.im i') (ih n2 e el fun b hb => hk b (List.mem_cons_of_mem _ hb))
theorem Fam.dr (h : Fam K Z H r g ls) (hz : ∀ a ∈ ls, a ∈ Z) : DR K Z H r (g.map fun x => (x.1, PyData.list x.2)) := by
  induction h with
  | nil => exact .nil
  | cons a d _ ih => exact .cons (.lst (hz _ List.mem_cons_self) a d) (ih fun b hb => hz b (List.mem_cons_of_mem _ hb))
end
def Gd (K : PySem.W.Frag) (Z : List Addr) (H : Hp) (o : Addr) (ls : List Addr) (g : List (List Key × List PyData)) : Prop := (o :: ls).Nodup ∧ ∃ r, H o = some (.dT r) ∧ Fam K Z H r g ls
def Ent.gd (K : PySem.W.Frag) (o : Addr) (ls : List Addr) (g : List (List Key × List PyData)) : Ent :=
  ⟨8, o :: ls, true, fun Z H => Gd K Z H o ls g, fun Z H H' ⟨n, r, h, f⟩ e i => ⟨n, r, by rw [e o List.mem_cons_self]; exact h, f.loc (fun a ha => e a (List.mem_cons_of_mem _ ha)) i⟩, fun Z Z' H s ⟨n, r, h, f⟩ => ⟨n, r, h, f.zs s⟩, fun Z H ⟨n, r, h, f⟩ a ha => by
    rcases List.mem_cons.mp ha with q | ha
    · rw [q]; exact ⟨_, h⟩
    · obtain ⟨xs, e⟩ := f.live a ha
      exact ⟨_, e⟩⟩
/-- the frozen dict -/
def Fz (K : PySem.W.Frag) (o : Addr) (s : List (List Key × PyData)) (Z : List Addr) (H : Hp) : Prop := o ∈ Z ∧ DDt K Z H o s
theorem fz_stay {K : PySem.W.Frag} {o : Addr} {s : List (List Key × PyData)} : Stay (Fz K o s) where
  im := fun Z H H' ⟨z, r, h, d⟩ i => ⟨z, r, i.2 _ z _ h, d.im i⟩
  zs := fun Z Z' H i ⟨z, r, h, d⟩ => ⟨i z, r, h, d.zs i⟩
section
variable {K : PySem.W.Frag} {B : Bs} {H H' : Hp} {Z Z' : List Addr} {L L' : List Ent} {M : List (List V × List PyData)} {F : Ent → List Ent} {o : Addr} {ls : List Addr} {g : List (List Key × List PyData)} {Q : VK} {v y z : V} {ds : List PyData} {d : PyData}
theorem h_gdnew (h : Hs K B Z H L M) (k : ∀ p H', Hs K B Z H' (.gd K p [] [] :: L) M → Q (.ref p) H') : tDNewT [] H Q :=
  u_dnewT fun p H' hn hk ho => k p H' (h.new hk (.gd K p [] []) (fun a ha => by rw [one_mem ha]; exact hn) ⟨by simp, [], ho, .nil⟩)
theorem h_gdA {R : Addr → Prop} (h : Hs K B Z H L M) (l : Loc L (.gd K o ls g) F) (k : R o) : DgA (.ref o) H R := by
  obtain ⟨_, r, e, _⟩ := (h.get l : Gd K Z H o ls g)
  exact ⟨o, rfl, .inr ⟨r, .inl e⟩, k⟩
/-- two entries as one -/
def Ent.and (e e1 : Ent) : Ent :=
  ⟨10, e.foot ++ e1.foot, e.w && e1.w, fun Z H => e.P Z H ∧ e1.P Z H, fun Z H H' p k i => ⟨e.loc Z H H' p.1 (fun a ha => k a (List.mem_append_left _ ha)) i, e1.loc Z H H' p.2 (fun a ha => k a (List.mem_append_right _ ha)) i⟩,
    fun Z Z' H s p => ⟨e.zs Z Z' H s p.1, e1.zs Z Z' H s p.2⟩, fun Z H p a ha => (List.mem_append.mp ha).elim (e.live Z H p.1 a) (e1.live Z H p.2 a)⟩
theorem Loc.re {e e' : Ent} (l : Loc L e F) : Loc (F e') e' F := by
  induction l with
  | here => exact .here
  | there _ ih => exact .there ih
theorem Hs.join {e e1 : Ent} (h : Hs K B Z H (e1 :: L) M) (l : Loc L e F) : Hs K B Z H (F (.and e e1)) M := by
  obtain ⟨LA, LC, rfl, q⟩ := l.split
  rw [q]
  obtain ⟨d1, d2⟩ := List.pairwise_cons.mp h.nd
  rw [List.pairwise_append] at d2
  obtain ⟨dA, dE, dX⟩ := d2
  obtain ⟨dE1, dC⟩ := List.pairwise_cons.mp dE
  have inA : ∀ x ∈ LA, x ∈ LA ++ e :: LC := fun x hx => List.mem_append_left _ hx
  have inC : ∀ x ∈ LC, x ∈ LA ++ e :: LC := fun x hx => List.mem_append_right _ (List.mem_cons_of_mem _ hx)
  have inE : e ∈ LA ++ e :: LC := List.mem_append_right _ List.mem_cons_self
  have all : ∀ {p : Ent → Prop}, (∀ x ∈ e1 :: (LA ++ e :: LC), p x) → p (.and e e1) → ∀ x ∈ LA ++ .and e e1 :: LC, p x := fun {p} hp pe x hx => by
    rcases List.mem_append.mp hx with z | z
    · exact hp x (List.mem_cons_of_mem _ (inA x z))
    · rcases List.mem_cons.mp z with z | z
      · rw [z]; exact pe
      · exact hp x (List.mem_cons_of_mem _ (inC x z))
  have m1 : e1 ∈ e1 :: (LA ++ e :: LC) := List.mem_cons_self
  have m2 : e ∈ e1 :: (LA ++ e :: LC) := List.mem_cons_of_mem _ inE
  refine ⟨h.kp, h.wl, h.zl, ?_, all (p := fun x => ∀ a ∈ x.foot, a ∉ Z) h.zd ?_, all (p := fun x => x.P Z H) h.at_ ⟨h.at_ e m2, h.at_ e1 m1⟩, all (p := fun x => x.w = true → ∀ a ∈ x.foot, a ∈ B.W ∨ B.H0 a = none) h.wr ?_, h.dp, h.zn⟩
  · rw [List.pairwise_append]
    refine ⟨dA, List.pairwise_cons.mpr ⟨fun x hx a ha => ?_, dC⟩, fun x hx y hy a ha hb => ?_⟩
    · rcases List.mem_append.mp ha with z | z
      · exact dE1 x hx a z
      · exact d1 x (inC x hx) a z
    · rcases List.mem_cons.mp hy with z | z
      · rw [z] at hb
        rcases List.mem_append.mp hb with r | r
        · exact dX x hx e List.mem_cons_self a ha r
        · exact d1 x (inA x hx) a r ha
      · exact dX x hx y (List.mem_cons_of_mem _ z) a ha hb
  · intro a ha
    rcases List.mem_append.mp ha with z | z
    · exact h.zd e m2 a z
    · exact h.zd e1 m1 a z
  · intro hw a ha
    obtain ⟨w1, w2⟩ := Bool.and_eq_true_iff.mp (show (e.w && e1.w) = true from hw)
    rcases List.mem_append.mp ha with z | z
    · exact h.wr e m2 w1 a z
    · exact h.wr e1 m1 w2 a z
/-- setdefault(k, []) -/
theorem h_gset (ks : List Key) {p : Addr} (h : Hs K B Z H (.dl K p [] true :: L) M) (l : Loc L (.gd K o ls g) F) (m : Dt K Z H y (.tuple (ks.map kD))) (hl : g.length < 100000)
    (old : ∀ (i : Nat) (l : Addr) (ds : List PyData), g[i]? = some (ks, ds) → ls[i]? = some l → (∀ j < i, ∀ x, g[j]? = some x → x.1 ≠ ks) → Hs K B Z H L M → Q (.ref l) H)
    (new : (∀ x ∈ g, x.1 ≠ ks) → ∀ H', Hs K B Z H' (F (.gd K o (ls ++ [p]) (g ++ [(ks, [])]))) M → Q (.ref p) H') : DsT o y (.ref p) H Q := by
  obtain ⟨nd, r, e, f⟩ := (h.get (.there l) : Gd K Z H o ls g)
  obtain ⟨b, rfl, hb⟩ := keyTup m
  obtain ⟨xs, ep, dp⟩ := (h.get .here : DL K Z H p [])
  have l1 := f.length
  refine ⟨r, ks, b, e, rfl, hb, Nat.lt_of_lt_of_le (by rw [l1.1]; exact hl) (by decide), fun v hv => ?_, fun hn => ?_⟩
  · rcases f.val ks with ⟨q, _⟩ | ⟨i, l2, ds, q1, q2, q3, q4⟩
    · rw [q] at hv; cases hv
    · rw [q1] at hv
      cases hv
      exact old i l2 ds q2 q3 q4 h.tlL
  · rcases f.val ks with ⟨_, q⟩ | ⟨i, l2, ds, q1, _⟩
    · have po : p ∉ o :: ls := fun z => (List.pairwise_cons.mp h.nd).1 _ l.mem p (by simp [Ent.dl]) z
      rw [putK_new _ hn]
      have im : Im Z H (upd H o (.dT (r ++ [(ks, V.ref p)]))) := Kp.mut.imN (fun a ha zs => by rw [one_mem ha, e]; intro z; cases z) fun a ha => by rw [one_mem ha]; exact h.zd _ (Loc.there (x := .dl K p [] true) l).mem o List.mem_cons_self
      obtain ⟨on, nl⟩ := List.nodup_cons.mp nd
      have pn : p ≠ o := fun z => po (by rw [z]; exact List.mem_cons_self)
      refine new q _ ((h.join l).put (e' := .gd K o (ls ++ [p]) (g ++ [(ks, [])])) l.re rfl Kp.mut (fun a ha => ?_) (fun a ha => ?_) (fun a ha xs => by rw [one_mem ha, e]; intro z; cases z) ⟨?_, _, upd_same, ?_⟩ fun a ha => .inl ?_)
      · rw [one_mem ha]; exact List.mem_append_left _ List.mem_cons_self
      · rw [one_mem ha]; exact List.mem_cons_self
      · refine List.nodup_cons.mpr ⟨fun z => ?_, List.nodup_append.mpr ⟨nl, by simp, fun a ha b hb z => ?_⟩⟩
        · rcases List.mem_append.mp z with z | z
          · exact on z
          · exact pn (one_mem z).symm
        · rw [one_mem hb] at z
          exact po (by rw [← z]; exact List.mem_cons_of_mem _ ha)
      · exact (f.loc (fun a ha => upd_ne (fun z => on (by rw [← z]; exact ha))) im).snoc (by rw [upd_ne pn]; exact ep) (dp.im im)
      · show a ∈ (o :: ls) ++ [p]
        exact ha
    · rw [q1] at hn; cases hn
/-- append to a list of the dict -/
theorem h_gapp {i : Nat} {l : Addr} {k : List Key} (h : Hs K B Z H L M) (c : Loc L (.gd K o ls g) F) (e : g[i]? = some (k, ds)) (el : ls[i]? = some l) (q : Dt K Z H v d) (hl : ds.length < 100000)
    (fin : ∀ H', Hs K B Z H' (F (.gd K o ls (g.set i (k, ds ++ [d])))) M → Q .non H') : rAppend (.ref l) [v] H Q := by
  obtain ⟨nd, r, eo, f⟩ := (h.get c : Gd K Z H o ls g)
  obtain ⟨on, nl⟩ := List.nodup_cons.mp nd
  obtain ⟨xs, ex, dx⟩ := f.at_ e el
  have ml : l ∈ ls := List.mem_of_getElem? el
  have lo : l ≠ o := fun z => on (by rw [← z]; exact ml)
  refine u_append ex (by rw [dx.length]; exact hl) fun H' hk hx => fin H' ?_
  have im : Im Z H H' := hk.imN (fun a ha zs => by rw [one_mem ha, ex]; intro z; cases z) fun a ha => by rw [one_mem ha]; exact h.zd _ c.mem l (List.mem_cons_of_mem _ ml)
  refine h.put (e' := .gd K o ls (g.set i (k, ds ++ [d]))) c rfl hk (fun a ha => by rw [one_mem ha]; exact List.mem_cons_of_mem _ ml) (fun a ha => by rw [one_mem ha]; exact List.mem_cons_of_mem _ ml) (fun a ha zs => by rw [one_mem ha, ex]; intro z; cases z) ⟨nd, r, hk.get1 lo.symm eo, ?_⟩ fun a ha => .inl ha
  refine f.put nl e el (fun a ha n => ?_) im hx ((dx.im im).append (.cons (q.im im) .nil))
  obtain ⟨ys, ey⟩ := f.live a ha
  rw [hk.get1 n ey, ey]
/-- no more changes: the dict and its lists are frozen -/
theorem h_gfz (h : Hs K B Z H L M) (rm : Rem L (.gd K o ls g) L') : Hs K B ((o :: ls) ++ Z) H (.fa (Fz K o (g.map fun x => (x.1, PyData.list x.2))) fz_stay :: L') M := by
  obtain ⟨LA, LC, rfl, rfl⟩ := rm.split
  have he : (Ent.gd K o ls g) ∈ LA ++ .gd K o ls g :: LC := by simp
  obtain ⟨nd, r, eo, f⟩ := (h.at_ _ he : Gd K Z H o ls g)
  have h1 := h.rem rm
  have dis : ∀ x ∈ LA ++ LC, ∀ a ∈ x.foot, a ∉ o :: ls := fun x hx a ha hb => by
    have pw := h.nd
    rw [List.pairwise_append] at pw
    rcases List.mem_append.mp hx with z | z
    · exact pw.2.2 x z _ List.mem_cons_self a ha hb
    · exact (List.pairwise_cons.mp pw.2.1).1 x z a hb ha
  have h2 := h1.moreZ (Z' := (o :: ls) ++ Z) (List.subset_append_right _ _) (fun a ha => ?_) (fun x hx a ha hb => ?_) fun a ha => ?_
  · exact h2.fa fz_stay ⟨by simp, r, eo, (f.zs (List.subset_append_right _ _)).dr fun a ha => List.mem_append_left _ (List.mem_cons_of_mem _ ha)⟩
  · rcases List.mem_append.mp ha with z | z
    · rcases List.mem_cons.mp z with z | z
      · rw [z]; exact ⟨_, eo⟩
      · obtain ⟨xs, e⟩ := f.live a z
        exact ⟨_, e⟩
    · exact h.zl a z
  · rcases List.mem_append.mp hb with z | z
    · exact dis x hx a ha z
    · exact h1.zd x hx a ha z
  · rcases List.mem_append.mp ha with z | z
    · exact .inr (h.wr _ he rfl a z)
    · exact h.zn a z
theorem h_fzA {R : Addr → Prop} {s : List (List Key × PyData)} (h : Hs K B Z H L M) (l : Loc L (.fa (Fz K o s) fz_stay) F) (k : R o) : DgA (.ref o) H R := by
  obtain ⟨_, r, e, _⟩ := (h.get l : Fz K o s Z H)
  exact ⟨o, rfl, .inr ⟨r, .inl e⟩, k⟩
theorem fz_get {s : List (List Key × PyData)} (ks : List Key) {Q : VK} (f : Fz K o s Z H) (m : Dt K Z H y (.tuple (ks.map kD))) (k1 : valD s ks = none → Q z H) (k2 : ∀ x d, valD s ks = some d → Dt K Z H x d → Q x H) : DgB o y z H Q := by
  obtain ⟨_, r, e, dr⟩ := f
  obtain ⟨b, rfl, hb⟩ := keyTup m
  refine ⟨valV r ks, .t e hb, ?_⟩
  rcases dr.val ks with ⟨e1, e2⟩ | ⟨v, d, e1, e2, q⟩
  · rw [e1]; exact k1 e2
  · rw [e1]; exact k2 v d e2 q
end
end U

set_option Elab.async false
set_option linter.all false
set_option autoImplicit false
set_option maxRecDepth 100000
set_option maxHeartbeats 4000000
/-! # sorted(dict of numbers, reverse=b); copies of dicts that the program owns; dicts with plain keys -/
namespace U
open PySem PySem.Spec PyProof.Rows L2
def rSortDK (b : Bool) : List V → List V → Hp → VK → Prop := fun vs zs H Q => ∃ (d : Addr) (kvs : List (Key × V)) (ns : List Int), vs = [.ref d] ∧ zs = [.bl b] ∧ Rd H d (.dK kvs) ∧ kvs.map (·.1) = ns.map Sum.inl ∧
  ∀ (ms : List Int) (p : Addr), ms.Perm ns → OrdB b ms → H p = none → Q (.ref p) (upd H p (.lst (ms.map V.int)))
theorem ints_of_at : ∀ {ns : List Int} {us : List Value}, ns.length = us.length → (∀ (j : Nat) (n : Int) (u : Value), ns[j]? = some n → us[j]? = some u → ∃ t, u = .int n t) → IntsAre us ns
  | [], [], _, _ => .nil
  | [], _ :: _, e, _ => by cases e
  | _ :: _, [], e, _ => by cases e
  | n :: ns, u :: us, e, h => by
    obtain ⟨t, rfl⟩ := h 0 n u rfl rfl
    exact .cons n t (ints_of_at (by simpa using e) fun j n u h1 h2 => h (j + 1) n u h1 h2)
theorem cr_sortedDR {X : Cx} {b : Bool} (hc : X.calm = true) : CallRK X (.builtin "sorted") [Str.ofString "reverse"] (rSortDK b) := by
  intro pins s σ H vs zs us ws Q I r rz h
  obtain ⟨d, kvs, ns, rfl, rfl, hd, hn, q⟩ := h
  obtain rfl := Vals.ref1 r
  obtain ⟨w1, rfl, e1⟩ := vals1 rz
  obtain rfl : w1 = Value.bool b := e1
  obtain ⟨z, lo, kv, rk, dd⟩ := dk_rd I.hok hd
  obtain ⟨ep, hat⟩ := dd.dictAt
  have hl : kvs.length = kv.length := Paired.length rk
  have nl : ns.length = kvs.length := by have := congrArg List.length hn; simpa using this.symm
  refine call_function_entry_kw kind_sorted plain_sorted entry_sorted (PyProof.Rows.args_sorted_rev _ _) ?_
  unfold Builtin.«sorted»
  refine wpAny_bind (m := checkCount "sorted" 1 1 _) (wpAny_pure (wpAny_bind (PySem.W.kdu_collect (A := X.A.in1) (PySem.W.kdl_dict (knd := mixKind X.prog X.w) (kvs := kv) (ep := ep) lo) (I.ok.hd hc) hat (by rw [← hl]; exact z) fun h' tk acc kp it => ?_)))
  have al : acc.toList.length = ns.length := by rw [Array.length_toList, it.1, nl, hl]
  have ai : IntsAre acc.toList ns := ints_of_at al.symm fun j n u h1 h2 => by
    obtain ⟨k, y, hky, hi⟩ := it.2 j u (by rw [← Array.getElem?_toList]; exact h2)
    have e1 : (kvs.map (·.1))[j]? = some k := by rw [KV.keys rk, List.getElem?_map, hky] <;> rfl
    rw [hn, List.getElem?_map, h1] at e1
    obtain rfl : Sum.inl n = k := Option.some.inj e1
    exact (show RelV (kV (Sum.inl n)) u from keyIs_rel (k := Sum.inl n) hi)
  have az : acc.toList.length ≤ sizeLine := by rw [al, nl]; exact z
  have I1 : Inv X pins σ H { s with heap := h', toks := tk } := I.kept kp
  refine wpAny_bind (wpAny_newList ?_ az)
  have hoL : (h'.push (seqObj "list" acc.toList.toArray 0)).get? h'.objs.size = some (seqObj "list" acc.toList.toArray 0) := Heap.get?_push_size _ rfl
  refine wpAny_bind (wpAny_holding (wpAny_call_entry_kw slot_list_sort ⟨_, hoL, rfl⟩ entry_list_sort ?_ (PyProof.Rows.args_list_sort_rev _ _)))
  refine SrtR.list_sort_ordR (b := b) (s := { s with heap := h'.push (seqObj "list" acc.toList.toArray 0), toks := tk }) SrtO.swo_int hoL az (fun h2 => SrtO.ints_sortable ai h2) fun out o1 o2 => ⟨_, rfl, wpAny_pure ⟨_, rfl, ?_⟩⟩
  obtain ⟨ms, k1, k2, k3⟩ := SrtR.ints_outR ai o1 o2
  obtain ⟨ex, he⟩ := PyProof.Rows.sortedHeap_at (vs := acc.toList) (out := if b = true then out.toArray.reverse else out.toArray) hoL
  have mz : (ms.map V.int).length ≤ sizeLine := by rw [List.length_map, k2.length_eq, ← al]; exact az
  refine ⟨.ref h'.objs.size, upd H h'.objs.size (.lst (ms.map V.int)), I1.laid (t' := tk) (fun c u e => ?_) (Nat.le_refl _) (show ObjOk X.prog X.w _ _ _ (.lst (ms.map V.int)) from ⟨mz, _, ex, vals_of_ints k1, by rw [Array.toArray_toList]; exact he⟩), rfl, q ms _ k2 k3 (I1.hok.fresh (Nat.le_refl _))⟩
  have hb : c < h'.objs.size := Heap.lt_size e
  rw [PyProof.Rows.sortedHeap_old (Nat.ne_of_lt hb) (by rw [size_push']; exact Nat.lt_succ_of_lt hb)]
  exact Heap.get?_push_of_some _ e
/-! ## a dict that the program owns -/
def OwnD (P : Program) (w : World) (K : PySem.W.Frag) (a : Addr) (kvs : List (Key × V)) : Prop :=
  (a == sysModules) = false ∧ kvs.length ≤ sizeLine ∧ ∀ h : Heap, K.In h → ∃ vs, KV kvs vs ∧ h.DictOf (mixKind P w) a vs
theorem cr_dictO {X : Cx} : CallR X (.type "dict") (fun xs H Q => ∃ (a : Addr) (kvs : List (Key × V)), xs = [.ref a] ∧ OwnD X.prog X.w X.K a kvs ∧ ∀ p, H p = none → Q (.ref p) (upd H p (.dK kvs))) := by
  intro pins s σ H xs us Q I r q
  obtain ⟨a, kvs, rfl, ⟨lo, z, od⟩, q⟩ := q
  obtain ⟨u, rfl, rx⟩ := vals1 r
  cases rx
  obtain ⟨vs, rel, dd⟩ := od s.heap I.kIn
  refine kt_call_dict lo dd (by rw [← Paired.length rel]; exact z) fun h' d' hs => ?_
  have hm : (s.heap.objs.size == sysModules) = false := beq_eq_false_iff_ne.mpr (Nat.ne_of_gt I.big)
  refine ⟨.ref s.heap.objs.size, _, I.laid (t' := s.toks) (o := .dK kvs) (fun b u e => ?_) (Nat.le_refl _) ⟨z, hm, vs, rel, d'⟩, rfl, q _ (I.hok.fresh (Nat.le_refl _))⟩
  exact (hs.2 b (Nat.ne_of_lt (Heap.lt_size e))).trans (Heap.get?_push_of_some _ e)
end U

set_option Elab.async false
set_option linter.all false
set_option autoImplicit false
set_option maxRecDepth 100000
set_option maxHeartbeats 4000000
/-! # enumerate(tuple) -/
namespace U
open PySem PySem.Spec PyProof.Rows L2
theorem meets_enumT (l : Addr) (its : Array Value) :
    Meets (Builtin.«enumerate.__new__» ⟨[.type "enumerate", .ref l], []⟩) (fun _ R s => s.heap.IsTuple l its ∧ R (.ok (.ret (.ref (s.heap.push { cls := .type "tuple_iterator", data := .fields #[.ref l, .int 0 0] }).objs.size)))
        { s with heap := (s.heap.push { cls := .type "tuple_iterator", data := .fields #[.ref l, .int 0 0] }).push { cls := .type "enumerate", data := .fields #[.none, .bool false, .ref s.heap.objs.size, rawInt 0, .none, .none] } }) :=
  .of_wp fun prog w A R s h => by
    obtain ⟨hp, g, d, tk, os⟩ := s
    obtain ⟨hl, h⟩ := h
    have sub_ := sub_enumerate
    obtain ⟨⟨oc, od, oda, osl⟩, hol, hcl, nl, hdl⟩ := id hl
    simp only at hcl hdl
    subst hcl hdl
    have hL : Heap.IsTuple (Shared.heap ⟨hp, g, d, tk, os⟩) l its := hl
    have hl' : (Shared.heap ⟨hp, g, d, tk, os⟩).get? l = some { cls := .type "tuple", dict := od, data := .seq its nl, slots := osl } := hol
    wp_walk
    refine wpAny_stack_any fun st => wpAny_pure ?_
    split
    · rename_i c _ _ _ _ _
      cases (c == Value.type "enumerate")
      · wp_walk using wpAny_loadPart' hl', wpAny_pyIter_tuple hL
        exact ⟨_, rfl, h⟩
      · wp_walk using wpAny_loadPart' hl', wpAny_pyIter_tuple hL
        exact ⟨_, rfl, h⟩
    · wp_walk using wpAny_loadPart' hl', wpAny_pyIter_tuple hL
      exact ⟨_, rfl, h⟩
theorem call_enumT {prog : Program} {w : World} {A : Around} {E : Value → Shared → Prop} {s : Shared} {l : Addr} {its : Array Value} {Q : Value → Shared → Prop} (hl : s.heap.IsTuple l its)
    (h : ∀ h', IsEnum h' (s.heap.objs.size + 1) s.heap.objs.size 0 .none → h'.IsTupleIter s.heap.objs.size l 0 → (∀ b o, s.heap.get? b = some o → h'.get? b = some o) → Q (.ref (s.heap.objs.size + 1)) { s with heap := h' }) :
    wpAny (model prog w) A (call (.type "enumerate") [.ref l]) Q E s := by
  refine callType_new F.called_enumerate (by decide) (F.typeCall_enumerate_1 _) (F.newCall_enumerate_1 _) (fun o => F.args_object_init_2 o _) F.entry_enumerate_new (meets_enumT l its) ⟨hl, ?_⟩
  have z : (s.heap.push { cls := .type "tuple_iterator", data := .fields #[.ref l, .int 0 0] }).objs.size = s.heap.objs.size + 1 := Heap.size_push ..
  show _ ∧ _
  rw [z]
  have e := Heap.get?_push_size (s.heap.push { cls := .type "tuple_iterator", data := .fields #[.ref l, .int 0 0] }) (o := { cls := .type "enumerate", data := .fields #[.none, .bool false, .ref s.heap.objs.size, rawInt 0, .none, .none] }) rfl
  rw [z] at e
  exact ⟨⟨_, e, rfl⟩, h _ e ⟨_, Heap.get?_push_of_some _ (Heap.get?_push_size _ rfl), rfl, rfl⟩ fun b o g => Heap.get?_push_of_some _ (Heap.get?_push_of_some _ g)⟩
def IteT (K : PySem.W.Frag) (a : Addr) : It :=
  ⟨fun i H => ∃ (xs : List V) (x : V), SqT K H a xs ∧ xs[i]? = some x, fun i H v H' => ∃ T x, v = .ref T ∧ H T = none ∧ H' = upd H T (.tup [.int (i : Nat), x]) ∧ ∀ xs, SqT K H a xs → xs[i]? = some x, fun i H => ∃ xs : List V, SqT K H a xs ∧ xs.length ≤ i⟩
theorem apart_tt {h : Heap} {it a : Addr} {i : Nat} {items : Array Value} (h1 : h.IsTupleIter it a i) (h2 : h.IsTuple a items) : a ≠ it := by
  rintro rfl
  obtain ⟨o, e1, c1, _⟩ := h1
  obtain ⟨o2, e2, c2, _⟩ := h2
  rw [e1] at e2
  cases e2
  rw [c1] at c2
  exact absurd c2 (by decide)
theorem turn_enumT {P : Program} {w : World} {K : PySem.W.Frag} {elts : List Expr} {kk : Nat} {tpos : Pos} (a e it : Addr) :
    Turn P w K (.Tuple elts kk tpos) (IteT K a) [e, it] e (fun i h => (∃ old, IsEnum h e it (((i : Nat) : Int)) old) ∧ h.IsTupleIter it a i ∧ e ≠ it) where
  mem := List.mem_cons_self
  obj := fun i h ⟨⟨old, he⟩, ⟨o, ho, _, hd⟩, _⟩ b hb => by
    have z : b = e ∨ b = it := by simpa using hb
    rcases z with z | z
    · rw [z]; exact ⟨_, he, fun v q => by cases q⟩
    · rw [z]; exact ⟨o, ho, fun v q => by rw [hd] at q; cases q⟩
  keep := fun i h h' ⟨⟨old, he⟩, hi, hne⟩ k => ⟨⟨old, k e (by simp) _ he⟩, hi.at fun o q => k it (by simp) o q, hne⟩
  item := by
    intro X hP hw hK hc i pins s σ H E I hf st hg
    subst hP hw hK
    obtain ⟨⟨old, he⟩, hit, hne⟩ := st
    obtain ⟨xs, x, hq, hx⟩ := hg
    obtain ⟨its, rv, p, hz⟩ := I.tuple hq
    obtain ⟨u, hu, ru⟩ := rv.get hx
    have hel := Heap.lt_size he
    have hil : it < s.heap.objs.size := by obtain ⟨_, q, _⟩ := hit; exact Heap.lt_size q
    have nea : a ≠ it := apart_tt hit p
    have hlt : i < its.toArray.size := by
      have := (List.getElem?_eq_some_iff.mp hu).1
      simpa using this
    have nef : e ∉ [it, a] := by
      intro z
      have z : e = it ∨ e = a := by simpa using z
      rcases z with z | z
      · exact hne z
      · obtain ⟨o2, e2, c2, _⟩ := p
        rw [← z, he] at e2
        cases e2
        exact absurd (show Value.type "enumerate" = Value.type "tuple" from c2) (by decide)
    refine wpAny_pyNext_enum_itemC (Draws.tuple (A := X.A.in1) (I.ok.hd hc) it a nea its.toArray) he ⟨hit, p⟩ hlt hne nef fun y h' tk hy ho st' hT hsz hk => ?_
    obtain rfl : y = u := by
      have hy : its.toArray[i]? = some y := hy
      rw [List.getElem?_toArray, hu] at hy
      exact (Option.some.inj hy).symm
    refine ⟨_, rfl, wpAny_letOwnedTupleGo_enum (s := { s with heap := h', toks := tk + 1 }) ho fun h2 he' sb => ?_⟩
    have hT2 : h2.get? s.heap.objs.size = some { cls := .type "tuple", data := .seq #[.int (((i : Nat) : Int)) tk, y] } := (sb.2 _ (Nat.ne_of_gt hel)).trans hT
    have new : ObjOk X.prog X.w (upd H s.heap.objs.size (.tup [.int (((i : Nat) : Int)), x])) h2 s.heap.objs.size (.tup [.int (((i : Nat) : Int)), x]) :=
      ⟨by show 2 ≤ sizeLine; decide, [.int (((i : Nat) : Int)) tk, y], .cons ⟨_, rfl⟩ (.cons ru .nil), ⟨_, hT2, rfl, _, rfl⟩⟩
    have I1 : L2.Inv X pins σ (upd H s.heap.objs.size (.tup [.int (((i : Nat) : Int)), x])) { s with heap := h2, toks := tk + 1 } :=
      I.turnedNew (ch := [e, it]) (fun b ob hb q => (sb.2 b (fun z => hb (by simp [z]))).trans (hk b ob (fun z => hb (by simp [z])) (fun z => hb (by simp [z])) q)) hf (Nat.le_refl _) new
    refine ⟨.ref s.heap.objs.size, _, I1, rfl, ⟨_, x, rfl, I.hok.fresh (Nat.le_refl _), rfl, fun ys hy => by rw [I.tuple_inj hy hq]; exact hx⟩, ⟨⟨y, ?_⟩, st'.1.at fun o q => (sb.2 it (Ne.symm hne)).trans q, hne⟩, fun b hb => ?_⟩
    · have e1 : ((i + 1 : Nat) : Int) = ((i : Nat) : Int) + 1 := by omega
      rw [e1]; exact he'
    · have hb' : b < s.heap.objs.size := by
        have z : b = e ∨ b = it := by simpa using hb
        rcases z with z | z
        · rw [z]; exact hel
        · rw [z]; exact hil
      rw [upd_ne (Nat.ne_of_lt hb')]
      exact (hf b hb).1
  done := by
    intro X hP hw hK hc i pins s σ H E I hf st hg
    subst hP hw hK
    obtain ⟨⟨old, he⟩, hit, hne⟩ := st
    obtain ⟨xs, hq, hx⟩ := hg
    obtain ⟨its, rv, p, hz⟩ := I.tuple hq
    obtain ⟨f0, f1, f2, f3, f4, f5⟩ := hf it (by simp)
    have hl := rv.length
    have hT : s.TypeIs (.ref e) "enumerate" := ⟨_, he, rfl⟩
    unfold pyNext
    refine wpAny_bind (wpAny_attempt (wpAny_callSpecial?_slot (name := Str.ofString "__next__") hT F.slot_enumerate_next (wpAny_call_entry F.slot_enumerate_next hT F.entry_enumerate_next ?_ (F.args_enumerate_next_1 _))))
    show wpAny _ _ (field (.ref e) 2 >>= _) _ _ _
    refine wpAny_bind (wpAny_field he rfl (x := .ref it) rfl ?_)
    refine wpAny_bind (wpAny_nextOf_tuple_end (I.ok.hd hc) hit p (by simp; omega) fun h' x he' hx' => ?_)
    obtain ⟨o, ho, hcl⟩ := hx'
    refine wpAny_bind (wpAny_isInstance (T := "StopIteration") (b := true) ⟨o, ho, hcl⟩ isSubtype_stop (wpAny_pure ?_))
    exact ⟨rfl, I.turned (t' := s.toks) (fun b o hb q => he' b o hb q) f0 f1 f3 f4 f5⟩
  self := fun A i s Q E ⟨⟨_, he⟩, _⟩ h => wpAny_pyIter_enum he h
def iEnumT (K : PySem.W.Frag) (ta : TA) : TI := fun σ H R => ta σ H fun vs H1 => ∃ a xs, vs = [.ref a] ∧ SqT K H1 a xs ∧ R (IteT K a) H1
theorem pi_enumT {X : Cx} {K : PySem.W.Frag} {e : Expr} {ta : TA} {p pos tpos : Pos} {elts : List Expr} {kk : Nat} (hg : Gl X "enumerate") (hm : X.mg "enumerate" = none) (ha : PA X [e] ta) (hK : X.K = K := by rfl) (hs : starEach [e] X.env = [(false, eval e X.env)] := by rfl) :
    PI X (.Tuple elts kk tpos) (.Call (.Name "enumerate" p) [e] [] pos) (iEnumT K ta) := by
  subst hK
  refine ⟨fun pins s σ H R I h => Call_ (ld_blt I hg hm boot_enumerate (PyProof.Rows.callWith_type1 (thn (ha.run pos pins s σ H _ I h) fun us s1 ⟨vs, H1, I1, r1, a, xs, ex, sq, q⟩ => ?_) hs rfl))⟩
  subst ex
  cases r1 with
  | cons r rr =>
    cases rr
    cases r
    obtain ⟨its, rv, il, _⟩ := I1.tuple sq
    refine call_enumT il fun h' he hit hk => wpAny_pyIter_enum he ?_
    have I2 : L2.Inv X pins σ H1 { s1 with heap := h' } := I1.kept (t' := s1.toks) hk
    refine ⟨s1.heap.objs.size + 1, [s1.heap.objs.size + 1, s1.heap.objs.size], _, _, H1, rfl, I2, turn_enumT a (s1.heap.objs.size + 1) s1.heap.objs.size, ⟨⟨.none, he⟩, hit, Nat.succ_ne_self _⟩, fun b hb => ?_, q⟩
    have z : b = s1.heap.objs.size + 1 ∨ b = s1.heap.objs.size := by simpa using hb
    have le : s1.heap.objs.size ≤ b := by
      rcases z with z | z
      · rw [z]; exact Nat.le_add_right _ _
      · rw [z]; exact Nat.le_refl _
    exact I1.fpOk le (I1.hok.fresh le)
/-! step and loop -/
def EnT (K : PySem.W.Frag) (vs : List V) (R : It → Hp → Prop) (H : Hp) : Prop := ∃ a xs, vs = [.ref a] ∧ SqT K H a xs ∧ R (IteT K a) H
def EnL (K : PySem.W.Frag) (vs : List V) (R : It → Hp → Prop) (H : Hp) : Prop := ∃ a xs, vs = [.ref a] ∧ SqL K H a xs ∧ R (Ite K a) H
section
variable {K : PySem.W.Frag} {H H' : Hp} {Z : List Addr} {v : V} {ds : List PyData} {σ : L2.St}
theorem u_enT {ta : TA} {R : It → Hp → Prop} (h : ta σ H fun vs H1 => EnT K vs R H1) : iEnumT K ta σ H R := h
theorem u_enL {ta : TA} {R : It → Hp → Prop} (h : ta σ H fun vs H1 => EnL K vs R H1) : iEnum K ta σ H R := h
theorem h_enT {R : It → Hp → Prop} (m : Dt K Z H v (.tuple ds)) (q : R (IteT K (TA_ v)) H) : EnT K [v] R H := by
  obtain ⟨a, ys, rfl, t, _⟩ := m.tup_inv
  exact ⟨a, ys, rfl, t.sq, q⟩
theorem h_enL {R : It → Hp → Prop} (l : DLv K Z H v ds) (q : R (Ite K (TA_ v)) H) : EnL K [v] R H := by
  obtain ⟨p, rfl, l⟩ := l
  obtain ⟨ys, t, _⟩ := l.sq
  exact ⟨p, ys, rfl, t, q⟩
theorem l_enT {g : TG} {tb : TS} {D : Ends} (ds : List PyData) (Pv : Nat → L2.St → Hp → Prop) (h0 : Pv 0 σ H) (hl : ∀ i σ H, i ≤ ds.length → Pv i σ H → ∃ Z, Dt K Z H v (.tuple ds))
    (hs : ∀ i d x σ H H', ds[i]? = some d → Kp [] H H' → (∀ Z, Dt K Z H v (.tuple ds) → Dt K Z H' x (.tuple [.int (i : Nat), d])) → Pv i σ H → g x σ H' fun σ2 H2 => tb { D with nx := Pv (i + 1), ct := Pv (i + 1), bk := D.nx } σ2 H2) (hd : ∀ σ H, Pv ds.length σ H → D.nx σ H) : LoopQ (IteT K (TA_ v)) g tb D σ H := by
  refine ⟨fun i m σ H => m = ds.length - i ∧ i ≤ ds.length ∧ Pv i σ H, ⟨_, rfl, Nat.zero_le _, h0⟩, ?_⟩
  rintro i m σ H ⟨rfl, hi, p⟩
  obtain ⟨Z, l⟩ := hl i σ H hi p
  obtain ⟨a, xs, rfl, t, q⟩ := l.tup_inv
  by_cases hlt : i < ds.length
  · obtain ⟨d, ed⟩ : ∃ d, ds[i]? = some d := ⟨_, List.getElem?_eq_getElem hlt⟩
    obtain ⟨x, ex, qx⟩ := q.at ed
    refine .inr ⟨⟨xs, x, t.sq, ex⟩, Pv (i + 1), fun σ' H' p' => ⟨ds.length - (i + 1), by omega, rfl, hlt, p'⟩, ?_⟩
    rintro x' H' ⟨T, x2, rfl, nT, rfl, hx⟩
    refine hs i d _ σ H _ ed (Kp.new nT) (fun Z' l' => ?_) p
    obtain ⟨a', xs', e', t', q'⟩ := l'.tup_inv
    cases e'
    have h2 := hx xs' t'.sq
    obtain ⟨x3, ex3, qx3⟩ := q'.at ed
    rw [ex3] at h2
    cases h2
    exact .tup upd_same (.cons (.int _) (.cons (qx3.im (Kp.new nT).im) .nil))
  · obtain rfl : i = ds.length := by omega
    exact .inl ⟨⟨xs, t.sq, by rw [q.length]; exact Nat.le_refl _⟩, hd σ H p⟩
theorem l_enL {g : TG} {tb : TS} {D : Ends} (ds : List PyData) (Pv : Nat → L2.St → Hp → Prop) (h0 : Pv 0 σ H) (hl : ∀ i σ H, i ≤ ds.length → Pv i σ H → ∃ Z, DLv K Z H v ds)
    (hs : ∀ i d x σ H H', ds[i]? = some d → Kp [] H H' → (∀ Z, DLv K Z H v ds → Dt K Z H' x (.tuple [.int (i : Nat), d])) → Pv i σ H → g x σ H' fun σ2 H2 => tb { D with nx := Pv (i + 1), ct := Pv (i + 1), bk := D.nx } σ2 H2) (hd : ∀ σ H, Pv ds.length σ H → D.nx σ H) : LoopQ (Ite K (TA_ v)) g tb D σ H := by
  refine ⟨fun i m σ H => m = ds.length - i ∧ i ≤ ds.length ∧ Pv i σ H, ⟨_, rfl, Nat.zero_le _, h0⟩, ?_⟩
  rintro i m σ H ⟨rfl, hi, p⟩
  obtain ⟨Z, a, rfl, l⟩ := hl i σ H hi p
  obtain ⟨xs, t, q⟩ := l.sq
  by_cases hlt : i < ds.length
  · obtain ⟨d, ed⟩ : ∃ d, ds[i]? = some d := ⟨_, List.getElem?_eq_getElem hlt⟩
    obtain ⟨x, ex, qx⟩ := q.at ed
    refine .inr ⟨⟨xs, x, t, ex⟩, Pv (i + 1), fun σ' H' p' => ⟨ds.length - (i + 1), by omega, rfl, hlt, p'⟩, ?_⟩
    rintro x' H' ⟨T, x2, rfl, nT, rfl, hx⟩
    refine hs i d _ σ H _ ed (Kp.new nT) (fun Z' l' => ?_) p
    obtain ⟨a', e', l'⟩ := l'
    cases e'
    obtain ⟨xs', t', q'⟩ := l'.sq
    have h2 := hx xs' t'
    obtain ⟨x3, ex3, qx3⟩ := q'.at ed
    rw [ex3] at h2
    cases h2
    exact .tup upd_same (.cons (.int _) (.cons (qx3.im (Kp.new nT).im) .nil))
  · obtain rfl : i = ds.length := by omega
    exact .inl ⟨⟨xs, t, by rw [q.length]; exact Nat.le_refl _⟩, hd σ H p⟩
end
end U

set_option Elab.async false
set_option linter.all false
set_option autoImplicit false
set_option maxRecDepth 100000
set_option maxHeartbeats 4000000
/-! # a dict of texts that stands in the program's part of the heap -/
namespace U
open PySem PySem.Spec PyProof.Rows L2
def rowE (w : World) (r : Str × Tok × Addr) : DictEntry := ⟨PyData.keyHash w.params r.1, .str r.1 r.2.1, .ref r.2.2⟩
def rowV (r : Str × Tok × Addr) : Key × V := (.inr r.1, .ref r.2.2)
def rowU (r : Str × Tok × Addr) : Key × Value := (.inr r.1, .ref r.2.2)
theorem row_kv : ∀ rows : List (Str × Tok × Addr), KV (rows.map rowV) (rows.map rowU)
  | [] => .nil
  | r :: rows => .cons ⟨rfl, rfl⟩ (row_kv rows)
theorem row_pairs {P : Program} {w : World} : ∀ rows : List (Str × Tok × Addr), Pairs (mixKind P w) (rows.map (rowE w)) (rows.map rowU)
  | [] => .nil
  | r :: rows => .cons (mixKind_str P w r.1 r.2.1) rfl (row_pairs rows)
theorem ownD_of {P : Program} {w : World} {K : PySem.W.Frag} {a : Addr} {n : Nat} (rows : List (Str × Tok × Addr)) (l : K.lookup a = some ⟨.type "dict", none, .dict (rows.map (rowE w)).toArray n, #[]⟩) (lo : (a == sysModules) = false) (z : rows.length ≤ sizeLine) (nd : (rows.map fun r => r.1).Nodup) :
    OwnD P w K a (rows.map rowV) := by
  refine ⟨lo, by rw [List.length_map]; exact z, fun h X => ⟨rows.map rowU, row_kv rows, _, _, n, X _ _ l, ⟨rfl, rfl, rfl⟩, rfl, fun e he => ?_, ?_, ?_⟩⟩
  · obtain ⟨r, hr, rfl⟩ := List.mem_map.mp (by simpa using he : e ∈ rows.map (rowE w))
    exact ⟨.inr r.1, mixKind_str P w r.1 r.2.1, rfl⟩
  · simpa using row_pairs (P := P) (w := w) rows
  · rw [List.map_map]
    have e : rows.map ((fun x : Key × Value => x.1) ∘ rowU) = (rows.map fun r => r.1).map Sum.inr := by rw [List.map_map]; rfl
    rw [e]
    exact List.pairwise_map.mpr (List.Pairwise.imp (fun h z => h (Sum.inr.inj z)) nd)
end U

set_option Elab.async false
set_option linter.all false
set_option autoImplicit false
set_option maxRecDepth 100000
set_option maxHeartbeats 4000000
/-! # dicts whose keys are numbers or texts, with data -/
namespace U
open PySem PySem.Spec PyProof.Rows L2
def DDk (K : PySem.W.Frag) (Z : List Addr) (H : Hp) (o : Addr) (s : List (Key × PyData)) : Prop := ∃ r, H o = some (.dK r) ∧ DR K Z H r s
def Ent.dk (K : PySem.W.Frag) (o : Addr) (s : List (Key × PyData)) (w : Bool) : Ent := ⟨5, [o], w, fun Z H => DDk K Z H o s, fun Z H H' ⟨r, h, d⟩ e i => ⟨r, by rw [e o (by simp)]; exact h, d.im i⟩, fun Z Z' H s ⟨r, h, d⟩ => ⟨r, h, d.zs s⟩, fun Z H ⟨r, h, d⟩ b hb => by rw [one_mem hb]; exact ⟨_, h⟩⟩
def DgC (x y : V) (H : Hp) (Q : VK) : Prop := ∃ a v, x = .ref a ∧ DGet H a y (some v) ∧ Q v H
def DiN (neg : Bool) (x y : V) (H : Hp) (Q : VK) : Prop := ∃ a o, x = .ref a ∧ DGet H a y o ∧ Q (.bl (if neg then !o.isSome else o.isSome)) H
def DispE (p : Addr) (ps : List (V × V)) (H : Hp) (Q : VK) : Prop := H p = some (.dK []) ∧ ∃ kvs : List (Key × V), ps = kvs.map (fun kv => (kV kv.1, kv.2)) ∧ kvs.length ≤ 15 ∧ Q (.ref p) (upd H p (.dK (mergeK [] kvs)))
section
variable {K : PySem.W.Frag} {B : Bs} {H H' : Hp} {Z Z' : List Addr} {L : List Ent} {M : List (List V × List PyData)} {F : Ent → List Ent} {o : Addr} {Q : VK} {v x y z : V} {d dz : PyData} {k : Key} {s : List (Key × PyData)} {w : Bool} {σ : L2.St}
theorem u_dget {td ty : TE} (h : td σ H fun x H1 => ty σ H1 fun y H2 => DgC x y H2 Q) : tDGet td ty σ H Q := h
theorem u_dinK {td ty : TE} (h : ty σ H fun y H1 => td σ H1 fun x H2 => DiN false x y H2 Q) : tDIn ty td σ H Q := h
theorem u_dniK {td ty : TE} (h : ty σ H fun y H1 => td σ H1 fun x H2 => DiN true x y H2 Q) : tDNotIn ty td σ H Q := h
theorem u_disp {trs : List (TE × TE)} (h : ∀ p H', H p = none → Kp [] H H' → H' p = some (.dK []) → tPairs trs σ H' fun ps H2 => DispE p ps H2 Q) : tDisp trs σ H Q := fun p hp => h p _ hp (Kp.new hp) upd_same
theorem u_pairC {tk tv : TE} {r : List (TE × TE)} {R : List (V × V) → Hp → Prop} (h : tk σ H fun x H1 => tv σ H1 fun y H2 => tPairs r σ H2 fun ps H3 => R ((x, y) :: ps) H3) : tPairs ((tk, tv) :: r) σ H R := h
theorem u_pairN {R : List (V × V) → Hp → Prop} (h : R [] H) : tPairs [] σ H R := h
theorem h_dnewK (h : Hs K B Z H L M) (k : ∀ p H', Hs K B Z H' (.dk K p [] true :: L) M → Q (.ref p) H') : tDNewK σ H Q :=
  fun p hp => k p _ (h.new (Kp.new hp) (.dk K p [] true) (fun a ha => by rw [one_mem ha]; exact hp) ⟨[], upd_same, .nil⟩)
theorem h_disp {trs : List (TE × TE)} (h : Hs K B Z H L M) (k : ∀ p H', Hs K B Z H' (.dk K p [] true :: L) M → tPairs trs σ H' fun ps H2 => DispE p ps H2 Q) : tDisp trs σ H Q :=
  u_disp fun p H' hn hk ho => k p H' (h.new hk (.dk K p [] true) (fun a ha => by rw [one_mem ha]; exact hn) ⟨[], ho, .nil⟩)
theorem h_dkA {R : Addr → Prop} (h : Hs K B Z H L M) (l : Loc L (.dk K o s w) F) (k : R o) : DgA (.ref o) H R := by
  obtain ⟨r, e, _⟩ := (h.get l : DDk K Z H o s)
  exact ⟨o, rfl, .inl ⟨r, .inl e⟩, k⟩
theorem h_dkB (k : Key) (h : Hs K B Z H L M) (l : Loc L (.dk K o s w) F) (mz : Dt K Z H z dz) (q : ∀ x, Hs K B Z H L (([x], [(valD s k).getD dz]) :: M) → Q x H) : DgB o (kV k) z H Q := by
  obtain ⟨r, e, dr⟩ := (h.get l : DDk K Z H o s)
  refine ⟨valV r k, .k e, q _ (h.fact1 ?_)⟩
  rcases dr.val k with ⟨e1, e2⟩ | ⟨v, d, e1, e2, q⟩
  · rw [e1, e2]; exact mz
  · rw [e1, e2]; exact q
theorem h_dkC (k : Key) (h : Hs K B Z H L M) (l : Loc L (.dk K o s w) F) (e : valD s k = some d) (q : ∀ x, Hs K B Z H L (([x], [d]) :: M) → Q x H) : DgC (.ref o) (kV k) H Q := by
  obtain ⟨r, er, dr⟩ := (h.get l : DDk K Z H o s)
  rcases dr.val k with ⟨e1, e2⟩ | ⟨v, d', e1, e2, m⟩
  · rw [e] at e2; cases e2
  · rw [e] at e2; cases e2
    exact ⟨o, v, rfl, by rw [← e1]; exact .k er, q v (h.fact1 m)⟩
theorem h_dkI {neg : Bool} (k : Key) (h : Hs K B Z H L M) (l : Loc L (.dk K o s w) F) (q : Q (.bl (if neg then !(valD s k).isSome else (valD s k).isSome)) H) : DiN neg (.ref o) (kV k) H Q := by
  obtain ⟨r, er, dr⟩ := (h.get l : DDk K Z H o s)
  refine ⟨o, valV r k, rfl, .k er, ?_⟩
  rcases dr.val k with ⟨e1, e2⟩ | ⟨v, d', e1, e2, m⟩
  · rw [e1]; rw [e2] at q; exact q
  · rw [e1]; rw [e2] at q; exact q
theorem h_dkP {R : Hp → Prop} (k : Key) (h : Hs K B Z H L M) (l : Loc L (.dk K o s true) F) (q : Dt K Z H v d) (hl : s.length < 100000) (kk : ∀ H', Hs K B Z H' (F (.dk K o (putD s k d) true)) M → R H') : DpA (.ref o) (kV k) v H R := by
  obtain ⟨r, e, dr⟩ := (h.get l : DDk K Z H o s)
  have im : Im Z H (upd H o (.dK (putK r k v))) := Kp.mut.imN (fun a ha zs => by rw [one_mem ha, e]; intro z; cases z) fun a ha => by rw [one_mem ha]; exact h.zd _ l.mem o (by simp [Ent.dk])
  refine ⟨o, _, rfl, .k e (Nat.lt_of_lt_of_le (by rw [dr.length]; exact hl) (by decide)), kk _ (h.put (e' := .dk K o (putD s k d) true) l rfl Kp.mut (fun a ha => ha) (fun a ha => ha) (fun a ha zs => by rw [one_mem ha, e]; intro z; cases z) ?_ fun a ha => .inl ha)⟩
  exact ⟨_, upd_same, (dr.put q k).im im⟩
theorem merge_from : ∀ (more acc : List (Key × V)), ((acc ++ more).map (·.1)).Nodup → mergeK acc more = acc ++ more
  | [], acc, _ => (List.append_nil acc).symm
  | (k, v) :: more, acc, nd => by
    have e : putK acc k v = acc ++ [(k, v)] := by
      unfold putK
      rw [if_neg]
      intro z
      obtain ⟨p, hp, hk⟩ := List.any_eq_true.mp z
      have hk : p.1 = k := by simpa using hk
      rw [List.map_append, List.nodup_append] at nd
      exact nd.2.2 p.1 (List.mem_map.mpr ⟨p, hp, rfl⟩) k (by simp) hk
    show mergeK (putK acc k v) more = _
    rw [e, merge_from more (acc ++ [(k, v)]) (by rw [List.append_assoc]; exact nd), List.append_assoc]
    rfl
theorem merge_nodup {more : List (Key × V)} (nd : (more.map (·.1)).Nodup) : mergeK [] more = more := by
  have := merge_from more [] (by simpa using nd)
  simpa using this
theorem DR.keys {κ : Type} {r : List (κ × V)} {s : List (κ × PyData)} (h : DR K Z H r s) : r.map (·.1) = s.map (·.1) := by
  induction h with
  | nil => rfl
  | cons _ _ ih => simp [ih]
theorem DR.of : ∀ {ks : List Key} {vs : List V} {ds : List PyData}, ks.length = ds.length → Dts K Z H vs ds → ∃ r : List (Key × V), r.map (fun kv => (kV kv.1, kv.2)) = (ks.map kV).zip vs ∧ r.map (·.1) = ks ∧ DR K Z H r (ks.zip ds)
  | [], _, [], _, h => by cases h; exact ⟨[], rfl, rfl, .nil⟩
  | k :: ks, _, d :: ds, l, h => by
    cases h with
    | cons h1 h2 =>
      obtain ⟨r, e1, e2, e3⟩ := DR.of (ks := ks) (by simpa using l) h2
      exact ⟨(k, _) :: r, by rw [List.map_cons, e1]; rfl, by rw [List.map_cons, e2], .cons h1 e3⟩
/-- the display is done: its keys are unlike -/
theorem h_dispE (ks : List Key) {ps : List (V × V)} {vs : List V} {ds : List PyData} {p : Addr} (h : Hs K B Z H L M) (l : Loc L (.dk K p [] true) F) (e : ps = (ks.map kV).zip vs) (m : Dts K Z H vs ds) (hl : ks.length = ds.length) (few : ks.length ≤ 15) (nd : ks.Nodup)
    (k : ∀ H', Hs K B Z H' (F (.dk K p (ks.zip ds) true)) M → Q (.ref p) H') : DispE p ps H Q := by
  obtain ⟨r0, e0, dr0⟩ := (h.get l : DDk K Z H p [])
  cases dr0
  obtain ⟨r, e1, e2, e3⟩ := DR.of hl m
  have lr : r.length = ks.length := by have := congrArg List.length e2; rwa [List.length_map] at this
  have im : Im Z H (upd H p (.dK r)) := Kp.mut.imN (fun a ha zs => by rw [one_mem ha, e0]; intro z; cases z) fun a ha => by rw [one_mem ha]; exact h.zd _ l.mem p (by simp [Ent.dk])
  refine ⟨e0, r, by rw [e, e1], by omega, ?_⟩
  rw [merge_nodup (by rw [e2]; exact nd)]
  exact k _ (h.put (e' := .dk K p (ks.zip ds) true) l rfl Kp.mut (fun a ha => ha) (fun a ha => ha) (fun a ha zs => by rw [one_mem ha, e0]; intro z; cases z) ⟨_, upd_same, e3.im im⟩ fun a ha => .inl ha)
theorem dts_ints : ∀ {ns : List Int} {xs : List V}, Dts K Z H xs (ns.map PyData.int) → xs = ns.map V.int
  | [], _, h => by cases h; rfl
  | n :: ns, _, h => by
    cases h with
    | cons h1 h2 => rw [Dt.int_inv h1, dts_ints h2]; rfl
theorem h_sumL (ns : List Int) (l : DLv K Z H v (ns.map PyData.int)) (q : Q (.int ns.sum) H) : rSum K [v] H Q := by
  obtain ⟨p, rfl, l⟩ := l
  obtain ⟨xs, t, m⟩ := l.sq
  rw [dts_ints m] at t
  exact ⟨p, ns, rfl, t, q⟩
theorem h_maxL (ns : List Int) (l : DLv K Z H v (ns.map PyData.int)) (h0 : 0 < ns.length) (q : ∀ m, m ∈ ns → (∀ y, y ∈ ns → y ≤ m) → Q (.int m) H) : rMax K [v] H Q := by
  obtain ⟨p, rfl, l⟩ := l
  obtain ⟨xs, t, m⟩ := l.sq
  rw [dts_ints m] at t
  exact ⟨p, ns, rfl, t, h0, q⟩
end
/-! zip of a text and a tuple -/
def ZpS (K : PySem.W.Frag) (vs : List V) (R : It → Hp → Prop) (H : Hp) : Prop := ∃ (x : Str) (b : Addr) (ys : List V), vs = [.str x, .ref b] ∧ x.cps.all (· < 128) = true ∧ SqT K H b ys ∧ R (N17.ItzS K x b) H
section
variable {K : PySem.W.Frag} {H H' : Hp} {Z : List Addr} {v : V} {ds : List PyData} {σ : L2.St} {x : Str}
theorem u_zipS {ta : TA} {R : It → Hp → Prop} (h : ta σ H fun vs H1 => ZpS K vs R H1) : N17.iZipS K ta σ H R := h
theorem h_zipS {R : It → Hp → Prop} (a : x.cps.all (· < 128) = true) (m : Dt K Z H v (.tuple ds)) (q : R (N17.ItzS K x (TA_ v)) H) : ZpS K [.str x, v] R H := by
  obtain ⟨b, ys, rfl, t, _⟩ := m.tup_inv
  exact ⟨x, b, ys, rfl, a, t.sq, q⟩
theorem l_zipS {g : TG} {tb : TS} {D : Ends} (ds : List PyData) (hn : ds.length = x.cps.size) (Pv : Nat → L2.St → Hp → Prop) (h0 : Pv 0 σ H) (hl : ∀ i σ H, i ≤ ds.length → Pv i σ H → ∃ Z, Dt K Z H v (.tuple ds))
    (hs : ∀ i c d y σ H H', x.cps[i]? = some c → ds[i]? = some d → Kp [] H H' → (∀ Z, Dt K Z H v (.tuple ds) → Dt K Z H' y (.tuple [.str ⟨#[c]⟩, d])) → Pv i σ H → g y σ H' fun σ2 H2 => tb { D with nx := Pv (i + 1), ct := Pv (i + 1), bk := D.nx } σ2 H2) (hd : ∀ σ H, Pv ds.length σ H → D.nx σ H) : LoopQ (N17.ItzS K x (TA_ v)) g tb D σ H := by
  refine ⟨fun i m σ H => m = ds.length - i ∧ i ≤ ds.length ∧ Pv i σ H, ⟨_, rfl, Nat.zero_le _, h0⟩, ?_⟩
  rintro i m σ H ⟨rfl, hi, p⟩
  obtain ⟨Z, l⟩ := hl i σ H hi p
  obtain ⟨a, xs, rfl, t, q⟩ := l.tup_inv
  by_cases hlt : i < ds.length
  · obtain ⟨d, ed⟩ : ∃ d, ds[i]? = some d := ⟨_, List.getElem?_eq_getElem hlt⟩
    obtain ⟨y, ey, qy⟩ := q.at ed
    obtain ⟨c, ec⟩ : ∃ c, x.cps[i]? = some c := ⟨_, Array.getElem?_eq_getElem (by omega)⟩
    refine .inr ⟨⟨xs, c, y, t.sq, ec, ey⟩, Pv (i + 1), fun σ' H' p' => ⟨ds.length - (i + 1), by omega, rfl, hlt, p'⟩, ?_⟩
    rintro x' H' ⟨T, c2, y2, rfl, nT, rfl, ec2, hy2⟩
    rw [ec] at ec2
    cases ec2
    refine hs i c d _ σ H _ ec ed (Kp.new nT) (fun Z' l' => ?_) p
    obtain ⟨a', xs', e', t', q'⟩ := l'.tup_inv
    cases e'
    have h2 := hy2 xs' t'.sq
    obtain ⟨x3, ex3, qx3⟩ := q'.at ed
    rw [ex3] at h2
    cases h2
    exact .tup upd_same (.cons (.str _) (.cons (qx3.im (Kp.new nT).im) .nil))
  · obtain rfl : i = ds.length := by omega
    exact .inl ⟨⟨⟨xs, t.sq⟩, Array.getElem?_eq_none (by omega)⟩, hd σ H p⟩
theorem u_ckw {r : List V → List V → Hp → VK → Prop} {t tk : TA} {Q : VK} (h : t σ H fun vs H1 => tk σ H1 fun zs H2 => r vs zs H2 Q) : tCKw r t tk σ H Q := h
theorem h_sortDk {B : Bs} {L : List Ent} {M : List (List V × List PyData)} {F : Ent → List Ent} {b w : Bool} {o : Addr} {s : List (Key × PyData)} {Q : VK} (ns : List Int) (h : Hs K B Z H L M) (l : Loc L (.dk K o s w) F) (e : s.map (·.1) = ns.map Sum.inl)
    (k : ∀ (ms : List Int) p H', ms.Perm ns → OrdB b ms → Hs K B Z H' (.dl K p (ms.map PyData.int) true :: L) M → Q (.ref p) H') : rSortDK b [.ref o] [.bl b] H Q := by
  obtain ⟨r, er, dr⟩ := (h.get l : DDk K Z H o s)
  refine ⟨o, r, ns, rfl, rfl, .inl er, by rw [dr.keys]; exact e, fun ms p hp ho hn => k ms p _ hp ho (h.newDl (Kp.new hn) hn ⟨_, upd_same, Dts.ints ms⟩)⟩
theorem h_lenDk {B : Bs} {L : List Ent} {M : List (List V × List PyData)} {F : Ent → List Ent} {w : Bool} {o : Addr} {s : List (Key × PyData)} {R : List (Key × V) → Prop} (h : Hs K B Z H L M) (l : Loc L (.dk K o s w) F) (k : ∀ kvs, kvs.length = s.length → R kvs) : ∃ kvs, H o = some (.dK kvs) ∧ R kvs := by
  obtain ⟨r, er, dr⟩ := (h.get l : DDk K Z H o s)
  exact ⟨r, er, k r dr.length⟩
end
end U

set_option Elab.async false
set_option linter.all false
set_option autoImplicit false
set_option maxRecDepth 100000
set_option maxHeartbeats 4000000
/-! # one interface for what a loop walks over -/
namespace U
open PySem PySem.Spec PyProof.Rows L2
/-- J yields the data ds while st holds -/
structure Src (K : PySem.W.Frag) (J : It) (st : List Addr → Hp → Prop) (ds : List PyData) : Prop where
  go : ∀ Z i H, st Z H → i < ds.length → J.go i H
  yld : ∀ Z i H x H', st Z H → i < ds.length → J.yld i H x H' → Kp [] H H' ∧ ∃ d, ds[i]? = some d ∧ ∀ Z, st Z H → Dt K Z H' x d
  stop : ∀ Z i H, st Z H → ds.length ≤ i → J.stop i H
def enD (ds : List PyData) : List PyData := ds.zipIdx.map fun x => .tuple [.int (x.2 : Nat), x.1]
theorem enD_at {ds : List PyData} {i : Nat} {d : PyData} (h : ds[i]? = some d) : (enD ds)[i]? = some (.tuple [.int (i : Nat), d]) := by
  unfold enD
  rw [List.getElem?_map, List.getElem?_zipIdx, h]
  simp
theorem enD_len (ds : List PyData) : (enD ds).length = ds.length := by unfold enD; rw [List.length_map, List.length_zipIdx]
theorem enD_inv {ds : List PyData} {i : Nat} {e : PyData} (h : (enD ds)[i]? = some e) : ∃ d, ds[i]? = some d ∧ e = .tuple [.int (i : Nat), d] := by
  have hl := (List.getElem?_eq_some_iff.mp h).1
  rw [enD_len] at hl
  have h2 := enD_at (List.getElem?_eq_getElem hl)
  rw [h] at h2
  exact ⟨_, List.getElem?_eq_getElem hl, Option.some.inj h2⟩
section
variable {K : PySem.W.Frag} {v : V} {ds : List PyData}
theorem src_dt : Src K (Itt K (TA_ v)) (fun Z H => Dt K Z H v (.tuple ds)) ds where
  go := fun Z i H l hi => by
    obtain ⟨a, xs, rfl, t, q⟩ := l.tup_inv
    obtain ⟨x, ex, _⟩ := q.at (List.getElem?_eq_getElem hi)
    exact ⟨xs, x, t.sq, ex⟩
  yld := fun Z i H x H' l hi y => by
    obtain ⟨a, xs, rfl, t, q⟩ := id l.tup_inv
    obtain ⟨rfl, hx⟩ := y
    refine ⟨.refl, _, List.getElem?_eq_getElem hi, fun Z' l' => ?_⟩
    obtain ⟨a', xs', e', t', q'⟩ := l'.tup_inv
    cases e'
    obtain ⟨x2, ex2, qx2⟩ := q'.at (List.getElem?_eq_getElem hi)
    have := hx xs' t'.sq
    rw [ex2] at this
    cases this
    exact qx2
  stop := fun Z i H l hi => by
    obtain ⟨a, xs, rfl, t, q⟩ := l.tup_inv
    exact ⟨xs, t.sq, by rw [q.length]; exact hi⟩
theorem src_dl : Src K (Itl K (TA_ v)) (fun Z H => DLv K Z H v ds) ds where
  go := fun Z i H l hi => by
    obtain ⟨a, rfl, l⟩ := l
    obtain ⟨xs, t, q⟩ := l.sq
    obtain ⟨x, ex, _⟩ := q.at (List.getElem?_eq_getElem hi)
    exact ⟨xs, x, t, ex⟩
  yld := fun Z i H x H' l hi y => by
    obtain ⟨a, rfl, l⟩ := l
    obtain ⟨rfl, hx⟩ := y
    refine ⟨.refl, _, List.getElem?_eq_getElem hi, fun Z' l' => ?_⟩
    obtain ⟨a', e', l'⟩ := l'
    cases e'
    obtain ⟨xs', t', q'⟩ := l'.sq
    obtain ⟨x2, ex2, qx2⟩ := q'.at (List.getElem?_eq_getElem hi)
    have := hx xs' t'
    rw [ex2] at this
    cases this
    exact qx2
  stop := fun Z i H l hi => by
    obtain ⟨a, rfl, l⟩ := l
    obtain ⟨xs, t, q⟩ := l.sq
    exact ⟨xs, t, by rw [q.length]; exact hi⟩
theorem src_enT : Src K (IteT K (TA_ v)) (fun Z H => Dt K Z H v (.tuple ds)) (enD ds) where
  go := fun Z i H l hi => by
    rw [enD_len] at hi
    obtain ⟨a, xs, rfl, t, q⟩ := l.tup_inv
    obtain ⟨x, ex, _⟩ := q.at (List.getElem?_eq_getElem hi)
    exact ⟨xs, x, t.sq, ex⟩
  yld := fun Z i H x H' l hi y => by
    rw [enD_len] at hi
    obtain ⟨a, xs, rfl, t, q⟩ := id l.tup_inv
    obtain ⟨T, x2, rfl, nT, rfl, hx⟩ := y
    refine ⟨Kp.new nT, _, enD_at (List.getElem?_eq_getElem hi), fun Z' l' => ?_⟩
    obtain ⟨a', xs', e', t', q'⟩ := l'.tup_inv
    cases e'
    obtain ⟨x3, ex3, qx3⟩ := q'.at (List.getElem?_eq_getElem hi)
    have := hx xs' t'.sq
    rw [ex3] at this
    cases this
    exact .tup upd_same (.cons (.int _) (.cons (qx3.im (Kp.new nT).im) .nil))
  stop := fun Z i H l hi => by
    rw [enD_len] at hi
    obtain ⟨a, xs, rfl, t, q⟩ := l.tup_inv
    exact ⟨xs, t.sq, by rw [q.length]; exact hi⟩
theorem src_enL : Src K (Ite K (TA_ v)) (fun Z H => DLv K Z H v ds) (enD ds) where
  go := fun Z i H l hi => by
    rw [enD_len] at hi
    obtain ⟨a, rfl, l⟩ := l
    obtain ⟨xs, t, q⟩ := l.sq
    obtain ⟨x, ex, _⟩ := q.at (List.getElem?_eq_getElem hi)
    exact ⟨xs, x, t, ex⟩
  yld := fun Z i H x H' l hi y => by
    rw [enD_len] at hi
    obtain ⟨a, rfl, l⟩ := l
    obtain ⟨T, x2, rfl, nT, rfl, hx⟩ := y
    refine ⟨Kp.new nT, _, enD_at (List.getElem?_eq_getElem hi), fun Z' l' => ?_⟩
    obtain ⟨a', e', l'⟩ := l'
    cases e'
    obtain ⟨xs', t', q'⟩ := l'.sq
    obtain ⟨x3, ex3, qx3⟩ := q'.at (List.getElem?_eq_getElem hi)
    have := hx xs' t'
    rw [ex3] at this
    cases this
    exact .tup upd_same (.cons (.int _) (.cons (qx3.im (Kp.new nT).im) .nil))
  stop := fun Z i H l hi => by
    rw [enD_len] at hi
    obtain ⟨a, rfl, l⟩ := l
    obtain ⟨xs, t, q⟩ := l.sq
    exact ⟨xs, t, by rw [q.length]; exact hi⟩
end
/-! ## dict comprehensions -/
def DcE (D : Addr) (y z : V) (H : Hp) (Nx : Hp → Prop) : Prop := ∃ kvs k, y = kV k ∧ H D = some (.dK kvs) ∧ kvs.length < sizeLine ∧ Nx (upd H D (.dK (putK kvs k z)))
def DcQ (J : It) (g : TG) (tt : TT) (tk tv : TE) (vs : List Nat) (σ : L2.St) (Q : VK) (H1 : Hp) : Prop := ∀ D, H1 D = none → ∃ W : Nat → Nat → Hp → Prop, (∃ m, W 0 m (upd H1 D (.dK []))) ∧ ∀ i m H, W i m H →
  (J.stop i H ∧ Q (.ref D) H) ∨ (J.go i H ∧ ∃ Nx : Hp → Prop, (∀ H', Nx H' → ∃ m', m' < m ∧ W (i + 1) m' H') ∧ ∀ x H', J.yld i H x H' → g x (wipe σ vs) H' fun σ2 H2 => wipe σ2 vs = wipe σ vs ∧ tt σ2 H2 fun b H3 =>
    if b = true then tk σ2 H3 fun y H4 => tv σ2 H4 fun z H5 => ∃ kvs k, y = kV k ∧ H5 D = some (.dK kvs) ∧ kvs.length < sizeLine ∧ Nx (upd H5 D (.dK (putK kvs k z))) else Nx H3)
def DcP (K : PySem.W.Frag) (B : Bs) (Z : List Addr) (L : List Ent) (M : List (List V × List PyData)) (R : Nat → List (Key × PyData) → Prop) (D : Addr) (i : Nat) (H : Hp) : Prop := ∃ acc Z', Z ⊆ Z' ∧ R i acc ∧ acc.length ≤ i ∧ Hs K B Z' H (.dk K D acc true :: L) M
section
variable {K : PySem.W.Frag} {B : Bs} {H : Hp} {Z Z' : List Addr} {L : List Ent} {M : List (List V × List PyData)} {σ : L2.St} {Q : VK} {v y z : V} {d : PyData}
variable {g : TG} {tt : TT} {tk tv : TE} {ns : List Nat} {R : Nat → List (Key × PyData) → Prop} {D : Addr} {i : Nat} {acc : List (Key × PyData)}
theorem putD_len {κ : Type} [DecidableEq κ] (s : List (κ × PyData)) (k : κ) (d : PyData) : (putD s k d).length ≤ s.length + 1 := by
  unfold putD
  split
  · rw [List.length_map]; omega
  · simp
theorem u_dc {wi : TI} (h : wi σ H fun J H1 => DcQ J g tt tk tv ns σ Q H1) : tDc wi g tt tk tv ns σ H Q := h
theorem dcE (k : Key) (h : Hs K B Z' H (.dk K D acc true :: L) M) (s : Z ⊆ Z') (hl : acc.length ≤ i) (hi : i < 100000) (q : Dt K Z' H z d) (r : R (i + 1) (putD acc k d)) : DcE D (kV k) z H (DcP K B Z L M R D (i + 1)) := by
  obtain ⟨r0, e, dr⟩ := (h.get .here : DDk K Z' H D acc)
  have im : Im Z' H (upd H D (.dK (putK r0 k z))) := Kp.mut.imN (fun a ha zs => by rw [one_mem ha, e]; intro z; cases z) fun a ha => by rw [one_mem ha]; exact h.zd _ List.mem_cons_self D (by simp [Ent.dk])
  refine ⟨r0, k, rfl, e, Nat.lt_of_lt_of_le (by rw [dr.length]; omega) (by decide : 100000 ≤ sizeLine), putD acc k d, Z', s, r, Nat.le_trans (putD_len _ _ _) (Nat.add_le_add_right hl 1), ?_⟩
  exact h.put (e' := .dk K D (putD acc k d) true) .here rfl Kp.mut (fun a ha => ha) (fun a ha => ha) (fun a ha zs => by rw [one_mem ha, e]; intro z; cases z) ⟨_, upd_same, (dr.put q k).im im⟩ fun a ha => .inl ha
theorem dcS (h : Hs K B Z' H (.dk K D acc true :: L) M) (s : Z ⊆ Z') (hl : acc.length ≤ i) (r : R (i + 1) acc) : DcP K B Z L M R D (i + 1) H := ⟨acc, Z', s, r, Nat.le_succ_of_le hl, h⟩
theorem h_dc {J : It} {st : List Addr → Hp → Prop} (ds : List PyData) (src : Src K J st ds) (R : Nat → List (Key × PyData) → Prop) (h : Hs K B Z H L M) (hl : ∀ D acc Z' H', Hs K B Z' H' (.dk K D acc true :: L) M → st Z' H') (r0 : R 0 [])
    (turn : ∀ D i d x acc Z' H', ds[i]? = some d → R i acc → acc.length ≤ i → Z ⊆ Z' → Hs K B Z' H' (.dk K D acc true :: L) (([x], [d]) :: M) → g x (wipe σ ns) H' fun σ2 H2 => EndQ (wipe σ2 ns) (wipe σ ns) (tt σ2 H2 fun b H3 => Br b (fun H4 => tk σ2 H4 fun y H5 => tv σ2 H5 fun z H6 => DcE D y z H6 (DcP K B Z L M R D (i + 1))) (DcP K B Z L M R D (i + 1)) H3))
    (done : ∀ D acc Z' H', R ds.length acc → acc.length ≤ ds.length → Z ⊆ Z' → Hs K B Z' H' (.dk K D acc true :: L) M → Q (.ref D) H') : DcQ J g tt tk tv ns σ Q H := by
  intro D hD
  have h0 := h.new (Kp.new hD) (.dk K D [] true) (fun a ha => by rw [one_mem ha]; exact hD) ⟨[], upd_same, .nil⟩
  refine ⟨fun i m H' => m = ds.length - i ∧ i ≤ ds.length ∧ DcP K B Z L M R D i H', ⟨_, rfl, Nat.zero_le _, [], Z, fun _ z => z, r0, Nat.le_refl _, h0⟩, ?_⟩
  rintro i m H' ⟨rfl, hi, acc, Z', sz, r, hacc, hs⟩
  have l := hl _ _ _ _ hs
  by_cases hlt : i < ds.length
  · refine .inr ⟨src.go _ _ _ l hlt, DcP K B Z L M R D (i + 1), fun H2 p2 => ⟨ds.length - (i + 1), by omega, rfl, hlt, p2⟩, ?_⟩
    intro x' H2 y
    obtain ⟨kp, d, ed, q⟩ := src.yld _ _ _ _ _ l hlt y
    exact turn D i d x' acc Z' _ ed r hacc sz ((hs.same kp).fact1 (q _ l))
  · obtain rfl : i = ds.length := by omega
    exact .inl ⟨src.stop _ _ _ l (Nat.le_refl _), done D acc Z' H' r hacc sz hs⟩
/-- a list comprehension over anything -/
theorem h_lc {te : TE} {J : It} {st : List Addr → Hp → Prop} (ds : List PyData) (src : Src K J st ds) (R : Nat → List PyData → Prop) (h : Hs K B Z H L M) (hl : ∀ D acc Z' H', Hs K B Z' H' (.dl K D acc true :: L) M → st Z' H') (r0 : R 0 [])
    (turn : ∀ D i d x acc Z' H', ds[i]? = some d → R i acc → acc.length ≤ i → Z ⊆ Z' → Hs K B Z' H' (.dl K D acc true :: L) (([x], [d]) :: M) → g x (wipe σ ns) H' fun σ2 H2 => EndQ (wipe σ2 ns) (wipe σ ns) (tt σ2 H2 fun b H3 => Br b (fun H4 => te σ2 H4 fun y H5 => AppE D y H5 (LcP K B Z L M R D (i + 1))) (LcP K B Z L M R D (i + 1)) H3))
    (done : ∀ D acc Z' H', R ds.length acc → acc.length ≤ ds.length → Z ⊆ Z' → Hs K B Z' H' (.dl K D acc true :: L) M → Q (.ref D) H') : LcQ J g tt te ns σ Q H := by
  intro D hD
  have h0 := h.newDl (Kp.new hD) hD (ds := []) ⟨[], upd_same, .nil⟩
  refine ⟨fun i m H' => m = ds.length - i ∧ i ≤ ds.length ∧ LcP K B Z L M R D i H', ⟨_, rfl, Nat.zero_le _, [], Z, fun _ z => z, r0, Nat.le_refl _, h0⟩, ?_⟩
  rintro i m H' ⟨rfl, hi, acc, Z', sz, r, hacc, hs⟩
  have l := hl _ _ _ _ hs
  by_cases hlt : i < ds.length
  · refine .inr ⟨src.go _ _ _ l hlt, LcP K B Z L M R D (i + 1), fun H2 p2 => ⟨ds.length - (i + 1), by omega, rfl, hlt, p2⟩, ?_⟩
    intro x' H2 y
    obtain ⟨kp, d, ed, q⟩ := src.yld _ _ _ _ _ l hlt y
    exact turn D i d x' acc Z' _ ed r hacc sz ((hs.same kp).fact1 (q _ l))
  · obtain rfl : i = ds.length := by omega
    exact .inl ⟨src.stop _ _ _ l (Nat.le_refl _), done D acc Z' H' r hacc sz hs⟩
/-- a loop over anything, its facts given by one sentence -/
theorem l_src {tb : TS} {D : Ends} {J : It} {st : List Addr → Hp → Prop} (ds : List PyData) (src : Src K J st ds) (Pv : Nat → L2.St → Hp → Prop) (h0 : Pv 0 σ H) (hl : ∀ i σ H, i ≤ ds.length → Pv i σ H → ∃ Z, st Z H)
    (hs : ∀ i d x σ H H', ds[i]? = some d → Kp [] H H' → (∀ Z, st Z H → Dt K Z H' x d) → Pv i σ H → g x σ H' fun σ2 H2 => tb { D with nx := Pv (i + 1), ct := Pv (i + 1), bk := D.nx } σ2 H2) (hd : ∀ σ H, Pv ds.length σ H → D.nx σ H) : LoopQ J g tb D σ H := by
  refine ⟨fun i m σ H => m = ds.length - i ∧ i ≤ ds.length ∧ Pv i σ H, ⟨_, rfl, Nat.zero_le _, h0⟩, ?_⟩
  rintro i m σ H ⟨rfl, hi, p⟩
  obtain ⟨Z, l⟩ := hl i σ H hi p
  by_cases hlt : i < ds.length
  · refine .inr ⟨src.go _ _ _ l hlt, Pv (i + 1), fun σ' H' p' => ⟨ds.length - (i + 1), by omega, rfl, hlt, p'⟩, ?_⟩
    intro x' H' y
    obtain ⟨kp, d, ed, q⟩ := src.yld _ _ _ _ _ l hlt y
    exact hs i d x' σ H _ ed kp q p
  · obtain rfl : i = ds.length := by omega
    exact .inl ⟨src.stop _ _ _ l (Nat.le_refl _), hd σ H p⟩
end
end U

set_option Elab.async false
set_option linter.all false
set_option autoImplicit false
set_option maxRecDepth 100000
set_option maxHeartbeats 4000000
/-! # fields of objects, by their place -/
namespace U
open PySem PySem.Spec PyProof.Rows L2
theorem putF_new {k : Str} {v : V} : ∀ {fs : List (Str × V)} (ns : List Str), fs.map (·.1) = ns → k ∉ ns → putF k v fs = fs ++ [(k, v)]
  | [], _, _, _ => rfl
  | (g, w) :: r, ns, e, n => by
    subst e
    have h1 : g ≠ k := fun z => n (by rw [z]; exact List.mem_cons_self)
    show (if g = k then _ else (g, w) :: putF k v r) = _
    rw [if_neg h1, putF_new (r.map (·.1)) rfl (fun z => n (List.mem_cons_of_mem _ z))]
    rfl
theorem lk_of {k : Str} {v : V} : ∀ (i : Nat) {fs : List (Str × V)} (ns : List Str), fs[i]? = some (k, v) → (fs.take i).map (·.1) = ns → k ∉ ns → fs.lookup k = some v
  | 0, (g, w) :: r, ns, h, _, _ => by
    cases h
    simp only [List.lookup, beq_self_eq_true]
  | i + 1, (g, w) :: r, ns, h, e, n => by
    subst e
    have h1 : k ≠ g := fun z => n (by rw [z]; exact List.mem_cons_self)
    have : (k == g) = false := by simpa using h1
    simp only [List.lookup, this]
    exact lk_of i _ h rfl (fun z => n (List.mem_cons_of_mem _ z))
  | 0, [], _, h, _, _ => by cases h
  | i + 1, [], _, h, _, _ => by cases h
theorem lk_no {k : Str} : ∀ {fs : List (Str × V)} (ns : List Str), fs.map (·.1) = ns → k ∉ ns → fs.lookup k = none
  | [], _, _, _ => rfl
  | (g, w) :: r, ns, e, n => by
    subst e
    have h1 : k ≠ g := fun z => n (by rw [z]; exact List.mem_cons_self)
    have : (k == g) = false := by simpa using h1
    simp only [List.lookup, this]
    exact lk_no _ rfl (fun z => n (List.mem_cons_of_mem _ z))
section
variable {K : PySem.W.Frag} {B : Bs} {H : Hp} {Z : List Addr} {L : List Ent} {M : List (List V × List PyData)} {F : Ent → List Ent} {Q : VK} {w : Bool} {v : V}
/-- a new field is stored -/
theorem h_sfN (ns : List Str) (fs' : List (Str × V)) {p C dx : Addr} {fs : List (Str × V)} {f : Str} {y : V} {R : Hp → Prop} (hc : Cls K C) (hn : NoAttr K C f) (h : Hs K B Z H L M) (l : Loc L (.obj p (.ins C dx fs) true) F) (e : fs.map (·.1) = ns) (n : f ∉ ns) (hl : ns.length < 1000) (e2 : fs ++ [(f, y)] = fs') (k : ∀ H', Hs K B Z H' (F (.obj p (.ins C dx fs') true)) M → R H') : SFq K f (.ref p) y H R :=
  h_sf hc hn h l (by rw [← e, List.length_map] at hl; exact hl) fun H' hs => k H' (by rw [putF_new ns e n, e2] at hs; exact hs)
theorem h_fldI (i : Nat) (ns : List Str) {p C dx : Addr} {fs : List (Str × V)} {f : Str} (hc : Cls K C) (hn : NoAttr K C f) (h : Hs K B Z H L M) (l : Loc L (.obj p (.ins C dx fs) w) F) (hi : fs[i]? = some (f, v)) (e : (fs.take i).map (·.1) = ns) (n : f ∉ ns) (q : Q v H) : FldOf K f (.ref p) H Q :=
  h_fld hc hn h l (lk_of i ns hi e n) q
end
/-! an own class without errors in its making -/
def NcO (P : Program) (w : World) (K : PySem.W.Frag) (mg : Str → Option Value) (base : Heap) (k : Nat) (C : Addr) (x : Str) (ps : List Str) (sp : Sp) : Prop :=
  ∃ f fd, Mk K C f ∧ FnOk P w K mg base CX0 k f fd ps sp ∧ mg x = some (.ref C) ∧ Binds K fd ps []
section
variable {X : Cx} {k : Nat} {C : Addr} {p pos : Pos} {e : Expr} {es : List Expr} {t : TA} {E : L2.St → XK} {x : Str} {ps : List Str} {sp : Sp}
theorem pe_nco {K : PySem.W.Frag} (F : NcO X.prog X.w K X.mg X.base k C x ps sp) (pass : ∀ σ, PassesAt CX0 X σ (E σ)) (room : Room (k + 1) X.A)
    (ha : PA X (e :: es) t) (hg : Gl X x := by rfl) (hd : (x == ("__debug__" : Str)) = false := by decide)
    (he : starEach (e :: es) X.env = (false, eval e X.env) :: starEach es X.env := by rfl) (hpl : (backTo pos (starEach es X.env)).any (·.1) = false := by rfl) (hK : X.K = K := by rfl) :
    PE X (.Call (.Name x p) (e :: es) [] pos) (tNew C sp [] E t) := by
  subst hK
  obtain ⟨f, fd, mk, ok, g, b⟩ := F
  exact pe_new mk ok pass room g b .nil ha hg hd he hpl
end
end U

set_option Elab.async false
set_option linter.all false
set_option autoImplicit false
set_option maxRecDepth 100000
set_option maxHeartbeats 4000000
/-! # tuple * 1 is the tuple -/
namespace U
open PySem PySem.Spec PyProof.Rows L2
theorem tuple_mulOne (l : Addr) (items : Array Value) (n : Nat) (dd : Option Addr) (sl : Array (Option Value)) (x : Int) (u : Tok) (c0 : (decide (x < -(2 ^ 63)) || decide (x ≥ 2 ^ 63)) = false) (c1 : (items.isEmpty || x == 1) = true) :
    Meets (Builtin.«tuple.__mul__» ⟨[.ref l, .int x u], []⟩) (fun _ R s => s.heap.get? l = some { cls := .type "tuple", dict := dd, data := .seq items n, slots := sl } ∧ R (.ok (.ret (Value.ref l))) s) :=
  .of_wp fun prog w A R s h => by
    obtain ⟨hp, g, d, tk, os⟩ := s
    obtain ⟨hl, h⟩ := h
    have f1 := AutoSeq1.idx_int
    wp_walk using wpAny_loadPart' hl
    refine wpAny_ite_false (decide_eq_false (by rw [c0]; exact Bool.false_ne_true)) ?_
    wp_walk using wpAny_loadPart' hl
    all_goals (try (refine wpAny_ite_true (decide_eq_true c1) ?_))
    wp_walk using wpAny_loadPart' hl
    exact ⟨_, rfl, h⟩
/-- a tuple some times, once or more -/
def rRepH (K : PySem.W.Frag) : R2 := fun x y H Q => ∃ l k xs, x = .ref l ∧ y = .int k ∧ SqT K H l xs ∧ xs ≠ [] ∧ 1 ≤ k ∧ k ≤ 1000 ∧ xs.length ≤ 1000 ∧ (k = 1 → Q (.ref l) H) ∧ (2 ≤ k → ∀ p, H p = none → Q (.ref p) (upd H p (.tup (List.replicate k.toNat xs).flatten)))
theorem op_repH {X : Cx} : OpR X (binaryOp .Mult) (rRepH X.K) := by
  intro pins s σ H x y v u Q I rx ry h
  obtain ⟨l, k, xs, rfl, rfl, hT, hne, h1, h2, hz, q1, q2⟩ := h
  by_cases e1 : k = 1
  · have q1 := q1 e1
    cases rx
    obtain ⟨t, rfl⟩ := ry
    obtain ⟨its, r, ⟨⟨cls, dd, data, sl⟩, ho, hc, n, hd⟩, hs⟩ := I.tuple hT
    simp only at hc hd
    subst hc hd
    have c0 : (decide (k < -(2 ^ 63)) || decide (k ≥ 2 ^ 63)) = false := by
      rw [decide_eq_false (by omega), decide_eq_false (by omega)] <;> rfl
    have c1 : (its.toArray.isEmpty || k == 1) = true := by rw [e1]; simp
    refine wpAny_binaryOp_repeat_ref (T := "tuple") (U := "int") (by decide) ⟨_, ho, rfl⟩ (fun s' => typeIs_int s' k t) noFill_tuple_mul F.fills_int_mul F.slot_int_rmul repeat_tuple F.slot_int_index.lookup
      (call_meets F.slot_int_rmul (typeIs_int s k t) F.entry_int_rmul (F.args_int_rmul_2 _ _) (int_rmul_tuple k t l its.toArray n dd sl)
        ⟨ho, rfl, ⟨_, ho, rfl⟩, call_meets F.slot_tuple_mul ⟨_, ho, rfl⟩ F.entry_tuple_mul (F.args_tuple_mul_2 _ _) (tuple_mulOne l its.toArray n dd sl k t c0 c1) ⟨ho, ?_⟩⟩)
    exact ⟨.ref l, H, I, rfl, q1⟩
  · exact op_repT pins s σ H _ _ v u Q I rx ry ⟨l, k, xs, rfl, rfl, hT, hne, by omega, h2, hz, q2 (by omega)⟩
theorem repHK {X : Cx} (K : PySem.W.Frag) (h : X.K = K := by rfl) : OpR X (binaryOp .Mult) (rRepH K) := by subst h; exact op_repH
def repD (n : Nat) (ds : List PyData) : List PyData := (List.replicate n ds).flatten
theorem Dts.rep {K : PySem.W.Frag} {Z : List Addr} {H : Hp} {xs : List V} {ds : List PyData} (h : Dts K Z H xs ds) : ∀ n : Nat, Dts K Z H (List.replicate n xs).flatten (repD n ds)
  | 0 => .nil
  | n + 1 => by
    unfold repD
    rw [List.replicate_succ, List.replicate_succ, List.flatten_cons, List.flatten_cons]
    exact h.append (Dts.rep h n)
theorem h_repH {K : PySem.W.Frag} {B : Bs} {H : Hp} {Z : List Addr} {L : List Ent} {M : List (List V × List PyData)} {v : V} {ds : List PyData} {k : Int} {Q : VK} (h : Hs K B Z H L M) (m : Dt K Z H v (.tuple ds)) (hne : ds ≠ []) (h1 : 1 ≤ k) (h2 : k ≤ 1000) (hz : ds.length ≤ 1000)
    (q : ∀ x H', Hs K B Z H' L (([x], [.tuple (repD k.toNat ds)]) :: M) → Q x H') : rRepH K v (.int k) H Q := by
  obtain ⟨a, xs, rfl, t, d⟩ := id m.tup_inv
  refine ⟨a, k, xs, rfl, rfl, t.sq, fun e => hne ?_, h1, h2, by rw [d.length]; exact hz, fun e => ?_, fun _ p hp => ?_⟩
  · rw [e] at d; cases d; rfl
  · have : repD k.toNat ds = ds := by rw [e]; show (List.replicate 1 ds).flatten = ds; simp
    exact q _ H (h.fact1 (by rw [this]; exact m))
  · have kp : Kp [] H (upd H p (.tup (List.replicate k.toNat xs).flatten)) := Kp.new hp
    exact q _ _ ((h.same kp).fact1 (.tup upd_same ((d.rep k.toNat).im kp.im)))
end U

set_option Elab.async false
set_option linter.all false
set_option autoImplicit false
set_option maxRecDepth 100000
set_option maxHeartbeats 4000000
/-! # insert -/
namespace U
open PySem PySem.Spec PyProof.Rows L2
def rIns : V → List V → Hp → VK → Prop := fun x vs H Q => ∃ (l : Addr) (xs : List V) (i : Int) (y : V), x = .ref l ∧ vs = [.int i, y] ∧ H l = some (.lst xs) ∧ xs.length < sizeLine ∧ 0 ≤ i ∧ i < 2 ^ 63 ∧
    Q .non (upd H l (.lst (xs.take i.toNat ++ [y] ++ xs.drop i.toNat)))
theorem m_ins {X : Cx} : MtR X "list.insert" rIns := mt_insert
def insD (ds : List PyData) (i : Nat) (d : PyData) : List PyData := ds.take i ++ [d] ++ ds.drop i
theorem h_ins {K : PySem.W.Frag} {B : Bs} {H : Hp} {Z : List Addr} {L : List Ent} {M : List (List V × List PyData)} {F : Ent → List Ent} {p : Addr} {ds : List PyData} {d : PyData} {y : V} {i : Int} {Q : VK} (h : Hs K B Z H L M) (l : Loc L (.dl K p ds true) F) (q : Dt K Z H y d) (h0 : 0 ≤ i) (h1 : i ≤ 100000) (hl : ds.length < 100000)
    (k : ∀ H', Hs K B Z H' (F (.dl K p (insD ds i.toNat d) true)) M → Q .non H') : rIns (.ref p) [.int i, y] H Q := by
  obtain ⟨ys, ey, qs⟩ := h.dl l
  refine ⟨p, ys, i, y, rfl, rfl, ey, Nat.lt_of_lt_of_le (by rw [qs.length]; exact hl) (by decide : 100000 ≤ sizeLine), h0, by omega, ?_⟩
  refine k _ (h.putDl l Kp.mut ⟨_, upd_same, ?_⟩)
  exact (((qs.take i.toNat).append (.cons q .nil)).append (qs.drop i.toNat)).im (h.imDl l Kp.mut)
theorem ins_map {α : Type} (f : α → PyData) (ls : List α) (i : Nat) (x : α) : insD (ls.map f) i (f x) = (ls.take i ++ [x] ++ ls.drop i).map f := by
  unfold insD
  simp
end U

set_option Elab.async false
set_option linter.all false
set_option autoImplicit false
set_option maxRecDepth 100000
set_option maxHeartbeats 4000000
namespace My
open PySem PySem.Spec PyProof.Rows L2 U
local macro_rules | `(tactic| tm_at "step") => `(tactic| first | (with_reducible refine br_b ?_ ?_ <;> intro hb_) | fail)

/-! my own steps: rows of tactics, tried from above -/
local macro_rules | `(tactic| tm_at "lk") => `(tactic| first | with_reducible assumption | (with_reducible refine' Kp.get0 ?k1 ?k2; (case k1 => with_reducible assumption); (case k2 => tm_at "lk")) | (with_reducible refine' Kp.get1 ?k1 ?k3 ?k2; (case k1 => with_reducible assumption); (case k3 => tm_at "ne"); (case k2 => tm_at "lk")) | fail)
local macro_rules | `(tactic| tm_at "lp") => `(tactic| first | with_reducible assumption | (with_reducible refine' Pool.kp0 ?k1 ?k2; (case k1 => with_reducible assumption); (case k2 => tm_at "lp")) | (with_reducible refine' Pool.kp1 ?k1 ?k3 ?k2; (case k1 => with_reducible assumption); (case k3 => tm_at "ne"); (case k2 => tm_at "lp")) | fail)
local macro_rules | `(tactic| tm_at "ls") => `(tactic| first | with_reducible assumption | (with_reducible refine' Scr.kp0 ?k1 ?k2; (case k1 => with_reducible assumption); (case k2 => tm_at "ls")) | (with_reducible refine' Scr.kp1 ?k1 ?k3 ?k4 ?k2; (case k1 => with_reducible assumption); (case k3 => with_reducible assumption); (case k4 => tm_at "ls"); (case k2 => tm_at "ls")) | fail)
local macro_rules | `(tactic| tm_at "ne") => `(tactic| first | with_reducible assumption | (with_reducible refine' Ne.symm ?k1; with_reducible assumption) | (with_reducible refine' ne_new ?k1 ?k2; (case k1 => with_reducible assumption); (case k2 => tm_at "lk")) | (with_reducible refine' ne_new' ?k1 ?k2; (case k1 => with_reducible assumption); (case k2 => tm_at "lk")) | (with_reducible refine' Pool.ne ?k1 ?k2; (case k1 => with_reducible assumption); (case k2 => tm_at "lp")) | (with_reducible refine' Ne.symm (Pool.ne ?k1 ?k2); (case k1 => with_reducible assumption); (case k2 => tm_at "lp")) | fail)
local macro_rules | `(tactic| tm_at "kc") => `(tactic| first | with_reducible assumption | with_reducible exact Kp.refl | (with_reducible refine' Kp.trans ?k1 (Kp.of0 ?k2); (case k2 => with_reducible assumption); (case k1 => tm_at "kc")) | (with_reducible refine' Kp.trans ?k1 ?k2; (case k2 => with_reducible assumption); (case k1 => tm_at "kc")) | (with_reducible refine' Kp.low' ?k1 ?k2 ?k3 ?k4; (case k2 => with_reducible assumption); (case k3 => with_reducible assumption); (case k1 => tm_at "kc"); (case k4 => tm_at "kc")) | fail)
local macro_rules | `(tactic| tm_at "sq") => `(tactic| first | (with_reducible refine' sql ?k9; (case k9 => tm_at "lk")) | (with_reducible refine' Scr.sq ?k9; (case k9 => tm_at "ls")) | fail)
local macro_rules | `(tactic| tm_at "sqt") => `(tactic| first | (with_reducible refine' sqt ?k9; (case k9 => tm_at "lk")) | fail)
local macro_rules | `(tactic| tm_at "bt") => `(tactic| first | with_reducible assumption | (with_reducible refine' Bt.mul ?k1 ?k2; (case k1 => tm_at "bt"); (case k2 => tm_at "bt")) | (with_reducible refine' Bt.addM ?k1 ?k2; (case k1 => tm_at "bt"); (case k2 => tm_at "bt")) | (with_reducible refine' Bt.subM ?k1 ?k2; (case k1 => tm_at "bt"); (case k2 => tm_at "bt")) | (with_reducible refine' Bt.neg ?k1; (case k1 => tm_at "bt")) | fail)
local macro_rules | `(tactic| tm_at "bm") => `(tactic| first | with_reducible assumption | (with_reducible refine' Bt.mono ?k1 ?k2; (case k1 => with_reducible assumption); (case k2 => k_dflt decide)) | fail)
local macro_rules | `(tactic| tm_at "side") => `(tactic| first | with_reducible assumption | (with_reducible refine' Bt.cmul ?k1 ?k2 ?k3; (case k1 => tm_at "bt"); (case k2 => tm_at "bt"); (case k3 => k_dflt decide)) | (with_reducible refine cmul_of ?k1; (case k1 => omega)) | (with_reducible refine cpow_of ?k1; (case k1 => omega)) | (with_reducible refine cdivw_of ?k1; (case k1 => omega)) | (with_reducible refine cdivw_big ?k1; (case k1 => omega)) | (with_reducible refine cmulx_of ?k1; (case k1 => omega)) | omega | fail)
local macro_rules | `(tactic| tm_at "step") => `(tactic| first
  | with_reducible refine u_op ?_
  | (with_reducible refine' u_var ?k1 ?_; (case k1 => k_dflt rfl))
  | with_reducible refine u_c ?_
  | with_reducible refine u_I0 ?_
  | with_reducible refine u_seq ?_
  | with_reducible refine u_asg ?_
  | with_reducible refine g_name ?_
  | with_reducible refine u_cb ?_
  | with_reducible refine u_cons ?_
  | with_reducible refine u_nil ?_
  | (with_reducible refine' u_pow ?k1 ?k2 ?_; (case k1 => k_dflt (tm_at "side")); (case k2 => (conv => lhs; simp only [Int.reduceToNat, Int.reducePow]) <;> rfl))
  | (with_reducible refine' u_I ?k1 ?_; (case k1 => k_dflt (tm_at "side")))
  | with_reducible refine u_int1 ?_
  | with_reducible refine u_intB ?_
  | with_reducible refine u_if ?_
  | with_reducible refine u_test ?_
  | with_reducible refine u_tb ?_
  | with_reducible refine u_tB ?_
  | with_reducible refine u_eqI ?_
  | with_reducible refine u_neI ?_
  | with_reducible refine u_eqB ?_
  | with_reducible refine u_and ?_
  | with_reducible refine u_or ?_
  | with_reducible refine u_not ?_
  | with_reducible refine u_andV ?_
  | with_reducible refine u_orV ?_
  | with_reducible refine u_notV ?_
  | with_reducible refine br_t ?_
  | with_reducible refine br_f ?_
  | with_reducible refine br_nt ?_
  | with_reducible refine br_nf ?_
  | with_reducible refine br_n ?_
  | with_reducible refine u_ret ?_
  | with_reducible refine u_next ?_
  | with_reducible refine u_drop ?_
  | with_reducible refine u_un ?_
  | with_reducible refine u_U ?_
  | with_reducible refine u_call ?_
  | with_reducible refine u_fldN ?_
  | with_reducible refine g_sub ?_
  | with_reducible refine g_cons ?_
  | with_reducible refine g_nil ?_
  | with_reducible refine u_tpar ?_
  | (with_reducible refine u_absL ?_; intro m_ h1_ h2_)
  | (with_reducible refine u_maxL ?_; intro m_ h1_ h2_ h3_)
  | (with_reducible refine u_minL ?_; intro m_ h1_ h2_ h3_)
  | with_reducible refine u_gcd ?_
  | with_reducible refine u_isi_ii ?_
  | with_reducible refine u_isi_ib ?_
  | with_reducible refine u_isi_bb ?_
  | with_reducible refine u_tupN ?_
  | with_reducible refine u_lstN ?_
  | (with_reducible refine' u_ixL ?k1 ?k2 ?_; (case k1 => tm_at "sq"); (case k2 => first | with_reducible assumption | k_dflt rfl))
  | (with_reducible refine' u_ixT ?k1 ?k2 ?_; (case k1 => tm_at "sqt"); (case k2 => k_dflt rfl))
  | (with_reducible refine' g_tup ?k1 ?k2 ?_; (case k1 => tm_at "sqt"); (case k2 => k_dflt rfl))
  | (with_reducible refine' u_lenL ?k1 ?_; (case k1 => tm_at "sq"))
  | (with_reducible refine' u_lenT ?k1 ?_; (case k1 => tm_at "sqt"))
  | with_reducible refine u_for ?_
  | with_reducible refine u_iL ?_
  | with_reducible refine u_iT ?_
  | with_reducible refine u_r1 ?_
  | with_reducible refine u_r2 ?_
  | (with_reducible refine' u_iLq ?k1 ?_; (case k1 => tm_at "sq"))
  | (with_reducible refine' u_iTq ?k1 ?_; (case k1 => tm_at "sqt"))
  | (with_reducible refine' u_r1q ?k1 ?_; (case k1 => (constructor <;> omega)))
  | (with_reducible refine' u_r2q ?k1 ?_; (case k1 => (refine ⟨?_, ?_, ?_, ?_⟩ <;> omega)))
  | with_reducible refine u_lc ?_
  | with_reducible refine u_yes ?_
  | (with_reducible refine endQ ?k1 ?_; (case k1 => k_dflt rfl))
  | with_reducible refine u_meth ?_
  | with_reducible refine u_callS ?_
  | with_reducible refine u_bm ?_
  | (with_reducible refine' bm_list ?k1 ?_; (case k1 => tm_at "lk"))
  | (with_reducible refine' u_append ?k1 ?k2 ?_; (case k1 => tm_at "lk"); (case k2 => omega); intro H_ hk_ ho_)
  | (with_reducible refine' appE ?k1 ?k2 ?_; (case k1 => tm_at "lk"); (case k2 => omega); intro H_ hk_ ho_)
  | with_reducible refine u_sl ?_
  | with_reducible refine u_noPart ?_
  | with_reducible refine u_part ?_
  | with_reducible refine u_intq ?_
  | (with_reducible refine' u_slL ?k1 ?_; (case k1 => tm_at "sq"); intro p_ H_ hn_ hk_ ho_)
  | (with_reducible refine' n_tup ?k1 ?_; (case k1 => k_dflt (exact Nat.le_of_ble_eq_true rfl)); intro p_ H_ hn_ hk_ ho_)
  | (with_reducible refine' n_lst ?k1 ?_; (case k1 => k_dflt (exact Nat.le_of_ble_eq_true rfl)); intro p_ H_ hn_ hk_ ho_)
  | (with_reducible refine' s_list ?k1 ?k2 ?_; (case k1 => tm_at "lk"); (case k2 => k_dflt rfl); intro H_ hk_ ho_)
  | (with_reducible refine br_d ?_ ?_ <;> intro hc_) | fail)
local macro_rules | `(tactic| tm_at "run") => `(tactic| repeat' tm_at "step")
local macro_rules | `(tactic| tm_at "go") => `(tactic| ((try dsimp only [cxOf, Cx.nox, Cx.wish]); tm_at "run"))

/-! steps over Hs -/
local macro_rules | `(tactic| tm_at "mem") => `(tactic| first | with_reducible exact List.mem_cons_self | (with_reducible refine' List.mem_cons_of_mem _ ?k1; (case k1 => tm_at "mem")) | fail)
local macro_rules | `(tactic| tm_at "loc") => `(tactic| first | with_reducible exact Loc.here | (with_reducible refine' Loc.there ?k1; (case k1 => tm_at "loc")) | fail)
local macro_rules | `(tactic| tm_at "rem") => `(tactic| first | with_reducible exact Rem.here | (with_reducible refine' Rem.there ?k1; (case k1 => tm_at "rem")) | fail)
local macro_rules | `(tactic| tm_at "suf") => `(tactic| first | with_reducible exact Suf.refl | (with_reducible refine' Suf.keep ?k1; (case k1 => tm_at "suf")) | (with_reducible refine' Suf.cons ?k1; (case k1 => tm_at "suf")) | fail)
local macro_rules | `(tactic| tm_at "wk") => `(tactic| first | with_reducible assumption | (with_reducible refine' Hs.wk ?k1 ?k2 ?k3; (case k1 => with_reducible assumption); (case k2 => tm_at "suf"); (case k3 => tm_at "suf")) | fail)
local macro_rules | `(tactic| tm_at "dt") => `(tactic| first | with_reducible exact Dt.int _ | with_reducible exact Dt.str _ | with_reducible exact Dt.bl _ | with_reducible exact Dt.non | with_reducible assumption | (with_reducible refine' Hs.dt ?k1 ?k2; (case k1 => with_reducible assumption); (case k2 => tm_at "mem")) | (with_reducible refine' Hs.dtup ?k1 ?k2 ?k3; (case k1 => with_reducible assumption); (case k2 => tm_at "loc"); (case k3 => tm_at "dts")) | fail)
local macro_rules | `(tactic| tm_at "dts") => `(tactic| first | with_reducible exact Dts.nil | (with_reducible refine' Dts.cons ?k1 ?k2; (case k1 => tm_at "dt"); (case k2 => tm_at "dts")) | with_reducible assumption | (with_reducible refine' Hs.dts ?k1 ?k2; (case k1 => with_reducible assumption); (case k2 => tm_at "mem")) | fail)
local macro_rules | `(tactic| tm_at "da") => `(tactic| first | (with_reducible refine' Da.imm ?k1; (case k1 => tm_at "dt")) | (with_reducible refine' Hs.dlst ?k1 ?k2; (case k1 => with_reducible assumption); (case k2 => tm_at "loc")) | fail)
local macro_rules | `(tactic| tm_at "lr") => `(tactic| first | with_reducible assumption | (with_reducible refine' Hs.dlv ?k1 ?k2; (case k1 => with_reducible assumption); (case k2 => tm_at "loc")) | (with_reducible refine' Dt.dlv ?k1; (case k1 => tm_at "dt")) | fail)
local macro_rules | `(tactic| tm_at "zs") => `(tactic| first | with_reducible assumption | with_reducible exact List.Subset.refl _ | (with_reducible refine' List.Subset.trans ?k1 ?k2; (case k2 => with_reducible assumption); (case k1 => tm_at "zs")) | (with_reducible refine' List.Subset.trans ?k1 (List.subset_cons_self _ _); (case k1 => tm_at "zs")) | fail)
local macro_rules | `(tactic| tm_at "at") => `(tactic| first | with_reducible assumption | k_dflt rfl | fail)
local macro_rules | `(tactic| tm_at "dep") => `(tactic| first | with_reducible assumption | (with_reducible refine' Nat.le_trans (Nat.min_le_left _ _) ?k1; (case k1 => first | with_reducible assumption | exact Nat.le_of_ble_eq_true rfl)) | (with_reducible refine' Nat.le_trans (Nat.min_le_right _ _) ?k1; (case k1 => first | with_reducible assumption | exact Nat.le_of_ble_eq_true rfl)) | fail)
local macro_rules | `(tactic| tm_at "mono") => `(tactic| (intro φ ψ h s; repeat' (first | exact fun r1 r2 r3 r4 => h _ (s r1 r2 r3 r4) | exact fun r1 r2 r3 => h _ (s r1 r2 r3) | exact fun r1 r2 => h _ (s r1 r2) | exact fun r1 => h _ (s r1) | exact h _ s | (obtain ⟨x, s⟩ := s; refine ⟨x, ?_⟩))))
local macro_rules | `(tactic| tm_at "sz") => `(tactic| first | with_reducible assumption | omega | k_dflt (exact Nat.le_of_ble_eq_true rfl) | (simp only [List.length_map, List.length_append, List.length_cons, List.length_nil]; omega) | fail)
local macro_rules | `(tactic| tm_at "pre") => `(tactic| first | with_reducible assumption | trivial | omega | (refine ⟨?_, ?_⟩ <;> tm_at "pre") | fail)
local macro_rules | `(tactic| tm_at "step") => `(tactic| first
  | (with_reducible refine' h_ixTi ?k1 ?k2 ?_; (case k1 => tm_at "dt"); (case k2 => tm_at "at"))
  | (with_reducible refine' h_ixTs ?k1 ?k2 ?_; (case k1 => tm_at "dt"); (case k2 => tm_at "at"))
  | (with_reducible refine' h_ixTb ?k1 ?k2 ?_; (case k1 => tm_at "dt"); (case k2 => tm_at "at"))
  | (with_reducible refine' h_ixTn ?k1 ?k2 ?_; (case k1 => tm_at "dt"); (case k2 => tm_at "at"))
  | (with_reducible refine' h_ixT ?k0 ?k1 ?k2 ?_; (case k0 => with_reducible assumption); (case k1 => tm_at "dt"); (case k2 => tm_at "at"); intro x_ hd_ hs_)
  | (with_reducible refine' h_ixLi ?k0 ?k1 ?k2 ?_; (case k0 => with_reducible assumption); (case k1 => tm_at "lr"); (case k2 => tm_at "at"))
  | (with_reducible refine' h_ixLs ?k0 ?k1 ?k2 ?_; (case k0 => with_reducible assumption); (case k1 => tm_at "lr"); (case k2 => tm_at "at"))
  | (with_reducible refine' h_ixLb ?k0 ?k1 ?k2 ?_; (case k0 => with_reducible assumption); (case k1 => tm_at "lr"); (case k2 => tm_at "at"))
  | (with_reducible refine' h_ixL ?k0 ?k1 ?k2 ?_; (case k0 => with_reducible assumption); (case k1 => tm_at "lr"); (case k2 => tm_at "at"); intro x_ hd_ hs_)
  | (with_reducible refine' h_gtup ?k1 ?k2 ?_; (case k1 => tm_at "dt"); (case k2 => k_dflt rfl); intro xs_ hq_)
  | (with_reducible refine' h_gci ?k1 ?_; (case k1 => with_reducible assumption); intro xs_ hq_)
  | (with_reducible refine' h_gcs ?k1 ?_; (case k1 => with_reducible assumption); intro xs_ hq_)
  | (with_reducible refine' h_gcb ?k1 ?_; (case k1 => with_reducible assumption); intro xs_ hq_)
  | (with_reducible refine' h_gcn ?k1 ?_; (case k1 => with_reducible assumption); intro xs_ hq_)
  | (with_reducible refine' h_gc ?k0 ?k1 ?_; (case k0 => with_reducible assumption); (case k1 => with_reducible assumption); intro x_ xs_ hq_ hs_)
  | (with_reducible refine' h_gn ?k1 ?_; (case k1 => with_reducible assumption))
  | (with_reducible refine' h_lenL ?k1 ?_; (case k1 => tm_at "lr"))
  | (with_reducible refine' h_lenT ?k1 ?_; (case k1 => tm_at "dt"))
  | (with_reducible refine' h_tup ?k0 ?k1 ?k2 ?_; (case k0 => with_reducible assumption); (case k1 => k_dflt (exact Nat.le_of_ble_eq_true rfl)); (case k2 => tm_at "dts"); intro p_ H_ hs_)
  | (with_reducible refine' h_lst ?k0 ?k1 ?k2 ?_; (case k0 => with_reducible assumption); (case k1 => k_dflt (exact Nat.le_of_ble_eq_true rfl)); (case k2 => tm_at "dts"); intro p_ H_ hs_)
  | (with_reducible refine' h_tupO ?k0 ?k1 ?_; (case k0 => with_reducible assumption); (case k1 => k_dflt (exact Nat.le_of_ble_eq_true rfl)); intro p_ H_ hs_)
  | (with_reducible refine' h_lstO ?k0 ?k1 ?_; (case k0 => with_reducible assumption); (case k1 => k_dflt (exact Nat.le_of_ble_eq_true rfl)); intro p_ H_ hs_)
  | fail)
local macro_rules | `(tactic| tm_at "step") => `(tactic| first
  | (with_reducible refine' h_bmL ?k0 ?k1 ?_; (case k0 => with_reducible assumption); (case k1 => tm_at "loc"))
  | (with_reducible refine' h_app ?k0 ?k1 ?k2 ?k3 ?_; (case k0 => with_reducible assumption); (case k1 => tm_at "loc"); (case k2 => tm_at "dt"); (case k3 => tm_at "sz"); intro H_ hs_)
  | (with_reducible refine' h_setL ?k0 ?k1 ?k2 ?k3 ?_; (case k0 => with_reducible assumption); (case k1 => tm_at "loc"); (case k2 => tm_at "dt"); (case k3 => tm_at "at"); intro H_ hs_)
  | (with_reducible refine' h_slL ?k0 ?k1 ?_; (case k0 => with_reducible assumption); (case k1 => tm_at "lr"); intro p_ H_ hs_)
  | (with_reducible refine' h_sl3 ?k0 ?k1 ?_; (case k0 => with_reducible assumption); (case k1 => tm_at "dt"); intro p_ H_ hs_)
  | (with_reducible refine' h_slf1 ?k0 ?k1 ?_; (case k0 => with_reducible assumption); (case k1 => tm_at "dt"); intro p_ H_ hs_)
  | (with_reducible refine' h_slT ?k0 ?k1 ?_; (case k0 => with_reducible assumption); (case k1 => tm_at "dt"); intro p_ H_ hs_)
  | (with_reducible refine' h_catLe ?k0 ?k1 ?k2 ?k3 ?k4 ?_; (case k0 => with_reducible assumption); (case k1 => tm_at "lr"); (case k2 => tm_at "lr"); (case k3 => tm_at "sz"); (case k4 => ((try simp only [List.cons_append, List.nil_append]); k_dflt rfl)); intro p_ H_ hs_)
  | (with_reducible refine' h_catTe ?k0 ?k1 ?k2 ?k3 ?k4 ?_; (case k0 => with_reducible assumption); (case k1 => tm_at "dt"); (case k2 => tm_at "dt"); (case k3 => tm_at "sz"); (case k4 => ((try simp only [List.cons_append, List.nil_append]); k_dflt rfl)); intro p_ H_ hs_)
  | (with_reducible refine' h_extL ?k0 ?k1 ?k2 ?k3 ?_; (case k0 => with_reducible assumption); (case k1 => tm_at "loc"); (case k2 => tm_at "lr"); (case k3 => tm_at "sz"); intro H_ hs_)
  | (with_reducible refine' h_tupOfL ?k0 ?k1 ?_; (case k0 => with_reducible assumption); (case k1 => tm_at "lr"); intro p_ H_ hs_)
  | (with_reducible refine' h_tupOfT ?k1 ?_; (case k1 => tm_at "dt"))
  | (with_reducible refine' h_listOfL ?k0 ?k1 ?_; (case k0 => with_reducible assumption); (case k1 => tm_at "lr"); intro p_ H_ hs_)
  | (with_reducible refine' h_listOfT ?k0 ?k1 ?_; (case k0 => with_reducible assumption); (case k1 => tm_at "dt"); intro p_ H_ hs_)
  | (with_reducible refine' h_eq ?k1 ?k2 ?k3 ?_; (case k1 => tm_at "da"); (case k2 => tm_at "da"); (case k3 => tm_at "dep"))
  | (with_reducible refine' h_ne ?k1 ?k2 ?k3 ?_; (case k1 => tm_at "da"); (case k2 => tm_at "da"); (case k3 => tm_at "dep"))
  | (with_reducible refine' h_inL ?k1 ?k2 ?k3 ?_; (case k1 => tm_at "dt"); (case k2 => tm_at "da"); (case k3 => tm_at "dep"))
  | (with_reducible refine' h_niL ?k1 ?k2 ?k3 ?_; (case k1 => tm_at "dt"); (case k2 => tm_at "da"); (case k3 => tm_at "dep"))
  | (with_reducible refine' h_inT ?k1 ?k2 ?k3 ?_; (case k1 => tm_at "dt"); (case k2 => tm_at "dt"); (case k3 => tm_at "dep"))
  | (with_reducible refine' h_niT ?k1 ?k2 ?k3 ?_; (case k1 => tm_at "dt"); (case k2 => tm_at "dt"); (case k3 => tm_at "dep"))
  | with_reducible refine u_chain ?_
  | (with_reducible refine' h_min4 ?k1 ?_; (case k1 => tm_at "dt"); intro m_ h1_ h2_ h3_ h4_ h5_)
  | (with_reducible refine' h_iL ?k1 ?_; (case k1 => tm_at "lr"))
  | (with_reducible refine' h_iT ?k1 ?_; (case k1 => tm_at "dt"))
  | (with_reducible refine' lcE ?k1 ?k2 ?k3 ?k4 ?k5 ?_; (case k1 => tm_at "wk"); (case k2 => tm_at "zs"); (case k3 => omega); (case k4 => omega); (case k5 => tm_at "dt"))
  | (with_reducible refine' lcS ?k1 ?k2 ?k3 ?_; (case k1 => tm_at "wk"); (case k2 => tm_at "zs"); (case k3 => omega))
  | with_reducible refine u_iA ?_
  | (with_reducible refine' f_repG ?k1 ?k2 ?k3 ?_; (case k1 => omega); (case k2 => omega); (case k3 => omega); intro z_ hz_)
  | (with_reducible refine' k_vA ?k0 ?k1 ?k2 ?_; (case k0 => with_reducible assumption); (case k1 => tm_at "dts"); (case k2 => tm_at "mono"))
  | (with_reducible refine' k_wA ?k0 ?k1 ?k2 ?k3 ?_; (case k0 => with_reducible assumption); (case k1 => tm_at "loc"); (case k2 => tm_at "dts"); (case k3 => tm_at "mono"))
  | (with_reducible refine' k_vlA ?k0 ?k1 ?k2 ?_; (case k0 => with_reducible assumption); (case k1 => tm_at "dts"); (case k2 => tm_at "mono"))
  | (with_reducible refine' k_wlA ?k0 ?k1 ?k2 ?k3 ?_; (case k0 => with_reducible assumption); (case k1 => tm_at "loc"); (case k2 => tm_at "dts"); (case k3 => tm_at "mono"))
  | (with_reducible refine ret_int ?_; intro H_ hs_)
  | (with_reducible refine ret_str ?_; intro H_ hs_)
  | (with_reducible refine ret_bl ?_; intro H_ hs_)
  | (with_reducible refine ret_non ?_; intro H_ hs_)
  | (with_reducible refine ret_any ?_; intro v_ Z_ H_ hz_ hs_)
  | (with_reducible refine retL ?_; intro p_ Z_ H_ hz_ hs_)
  | fail)
local macro_rules | `(tactic| tm_at "step") => `(tactic| first
  | with_reducible refine u_isNi ?_
  | with_reducible refine u_isNb ?_
  | with_reducible refine u_isNs ?_
  | with_reducible refine u_isi (.base (.str _)) kB_sb ?_
  | with_reducible refine u_isi (.base (.str _)) kB_ss ?_
  | with_reducible refine u_isi (.base (.str _)) kB_si ?_
  | with_reducible refine u_isi (.base (.bl _)) kB_bs ?_
  | with_reducible refine u_isi (.base (.bl _)) kB_bi ?_
  | with_reducible refine u_isi (.base (.int _)) kB_is ?_
  | (with_reducible refine' u_isi (ty_tup ?k1) kB_tt ?_; (case k1 => tm_at "dt"))
  | (with_reducible refine' u_isi (ty_tup ?k1) kB_tl ?_; (case k1 => tm_at "dt"))
  | (with_reducible refine' u_isi (ty_tup ?k1) kB_tb ?_; (case k1 => tm_at "dt"))
  | (with_reducible refine' u_isi (ty_tup ?k1) kB_ts ?_; (case k1 => tm_at "dt"))
  | (with_reducible refine' u_isi (ty_tup ?k1) kB_ti ?_; (case k1 => tm_at "dt"))
  | (with_reducible refine' u_isi (ty_lst ?k1) kB_lt ?_; (case k1 => tm_at "lr"))
  | (with_reducible refine' u_isi (ty_lst ?k1) kB_ll ?_; (case k1 => tm_at "lr"))
  | (with_reducible refine' u_isi (ty_lst ?k1) kB_lb ?_; (case k1 => tm_at "lr"))
  | (with_reducible refine' u_isi (ty_lst ?k1) kB_ls ?_; (case k1 => tm_at "lr"))
  | (with_reducible refine' u_isi (ty_lst ?k1) kB_li ?_; (case k1 => tm_at "lr"))
  | fail)
local macro_rules | `(tactic| tm_at "anyi") => `(tactic| (intro d hd; simp only [List.mem_cons, List.not_mem_nil, or_false] at hd; repeat' (rcases hd with rfl | hd); all_goals (first | exact ⟨_, rfl⟩ | (subst hd; exact ⟨_, rfl⟩))))
local macro_rules | `(tactic| tm_at "len") => `(tactic| (simp only [List.length_cons, List.length_nil, List.length_map, List.length_append]; omega))
local macro_rules | `(tactic| tm_at "step") => `(tactic| first
  | with_reducible refine u_dget2 ?_
  | with_reducible refine u_dput ?_
  | (with_reducible refine' h_dnewT ?k0 ?_; (case k0 => with_reducible assumption); intro p_ H_ hs_)
  | (with_reducible refine' h_dgA ?k0 ?k1 ?_; (case k0 => with_reducible assumption); (case k1 => tm_at "loc"))
  | fail)
local macro_rules | `(tactic| tm_at "finv") => `(tactic| (with_reducible refine' fin_v ?k1 ?k2 ?_; (case k1 => with_reducible assumption); (case k2 => tm_at "dt")))
local macro_rules | `(tactic| tm_at "finw") => `(tactic| (with_reducible refine' fin_w ?k1 ?k2 ?k3 ?_; (case k1 => with_reducible assumption); (case k2 => tm_at "loc"); (case k3 => tm_at "dt")))
local macro_rules | `(tactic| tm_at "finvl") => `(tactic| (with_reducible refine' fin_vl ?k1 ?k2 ?_; (case k1 => with_reducible assumption); (case k2 => tm_at "loc")))

/-! what the text's top has written of PlainBook -/
structure PbC (K : PySem.W.Frag) (mg : Str → Option Value) (C : Addr) : Prop where
  g : mg "PlainBook" = some (.ref C)
  cl : Cls K C
  n1 : NoAttr K C "states"
  n2 : NoAttr K C "first"
  n3 : NoAttr K C "choices"
  n4 : NoAttr K C "_options"

/-! what the text's top has written of CodeBook and Stock -/
structure CbC (K : PySem.W.Frag) (mg : Str → Option Value) (C : Addr) : Prop where
  g : mg "CodeBook" = some (.ref C)
  cl : Cls K C
  n1 : NoAttr K C "modulus"
  n2 : NoAttr K C "registers"
  n3 : NoAttr K C "rows"
  n4 : NoAttr K C "parts"
  n5 : NoAttr K C "ports"
  n6 : NoAttr K C "deeds"
  n7 : NoAttr K C "_lines_by_name"
structure SkC (K : PySem.W.Frag) (mg : Str → Option Value) (C : Addr) : Prop where
  g : mg "Stock" = some (.ref C)
  cl : Cls K C
  n1 : NoAttr K C "code"
  n2 : NoAttr K C "plain"

def top (i : Nat) : Stmt := PySem.Challenge.pw_oddskept_k18_takes.main.body.getD i (.Pass ⟨0, 0, 0, 0⟩)
abbrev s_l_int : Stmt := top 69
theorem sc_l_int : FnScope ["x"] ["x"] (defScope s_l_int) := ⟨rfl, rfl, rfl, by decide +kernel, rfl, by decide +kernel, by decide +kernel⟩
abbrev s_l_pool : Stmt := top 70
theorem sc_l_pool : FnScope ["script", "at", "cell", "kind"] ["script", "at"] (defScope s_l_pool) := ⟨rfl, rfl, rfl, by decide +kernel, rfl, by decide +kernel, by decide +kernel⟩
abbrev s_l_draw : Stmt := top 71
theorem sc_l_draw : FnScope ["pool", "many", "got", "x"] ["pool", "many"] (defScope s_l_draw) := ⟨rfl, rfl, rfl, by decide +kernel, rfl, by decide +kernel, by decide +kernel⟩
abbrev s_law : Stmt := top 88
theorem sc_law : FnScope ["script", "pool", "ports", "stock", "things", "code", "plain", "real", "first", "s", "states", "k", "ways", "p", "c", "far", "pairs", "menu"] ["script"] (defScope s_law) := ⟨rfl, rfl, rfl, by decide +kernel, rfl, by decide +kernel, by decide +kernel⟩
abbrev s_is_name : Stmt := top 26
theorem sc_is_name : FnScope ["word", "character"] ["word"] (defScope s_is_name) := ⟨rfl, rfl, rfl, by decide +kernel, rfl, by decide +kernel, by decide +kernel⟩
abbrev s_check_choice : Stmt := top 63
theorem sc_check_choice : FnScope ["choice", "states", "deed", "state", "argument", "following", "answer"] ["choice", "states"] (defScope s_check_choice) := ⟨rfl, rfl, rfl, by decide +kernel, rfl, by decide +kernel, by decide +kernel⟩
abbrev s_grouped_options : Stmt := top 64
theorem sc_grouped_options : FnScope ["choices", "grouped", "deed", "state", "argument", "following", "answer", "key", "options"] ["choices"] (defScope s_grouped_options) := ⟨rfl, rfl, rfl, by decide +kernel, rfl, by decide +kernel, by decide +kernel⟩
abbrev s_l_same : Stmt := top 85
theorem sc_l_same : FnScope ["told", "due", "k"] ["told", "due"] (defScope s_l_same) := ⟨rfl, rfl, rfl, by decide +kernel, rfl, by decide +kernel, by decide +kernel⟩
abbrev s_done_mark : Stmt := top 16
theorem sc_done_mark : FnScope ["value"] ["value"] (defScope s_done_mark) := ⟨rfl, rfl, rfl, by decide +kernel, rfl, by decide +kernel, by decide +kernel⟩
abbrev s_is_asked : Stmt := top 17
theorem sc_is_asked : FnScope ["mark"] ["mark"] (defScope s_is_asked) := ⟨rfl, rfl, rfl, by decide +kernel, rfl, by decide +kernel, by decide +kernel⟩
abbrev s_with_mark : Stmt := top 18
theorem sc_with_mark : FnScope ["marks", "port", "mark"] ["marks", "port", "mark"] (defScope s_with_mark) := ⟨rfl, rfl, rfl, by decide +kernel, rfl, by decide +kernel, by decide +kernel⟩
abbrev s_take_leads : Stmt := top 19
theorem sc_take_leads : FnScope ["plain", "state", "number", "marks", "leads", "port", "mark", "options", "choice", "behind", "answer", "marks_behind"] ["plain", "state"] (defScope s_take_leads) := ⟨rfl, rfl, rfl, by decide +kernel, rfl, by decide +kernel, by decide +kernel⟩
abbrev s_takes_of : Stmt := top 20
theorem sc_takes_of : FnScope ["stock", "state", "take", "behind"] ["stock", "state"] (defScope s_takes_of) := ⟨rfl, rfl, rfl, by decide +kernel, rfl, by decide +kernel, by decide +kernel⟩
abbrev s_taken : Stmt := top 21
theorem sc_taken : FnScope ["stock", "state", "port", "choice", "take", "behind"] ["stock", "state", "port", "choice"] (defScope s_taken) := ⟨rfl, rfl, rfl, by decide +kernel, rfl, by decide +kernel, by decide +kernel⟩
abbrev s_form_of : Stmt := top 30
theorem sc_form_of : FnScope ["forms", "instruction", "form"] ["forms", "instruction"] (defScope s_form_of) := ⟨rfl, rfl, rfl, by decide +kernel, rfl, by decide +kernel, by decide +kernel⟩
abbrev s_check_code : Stmt := top 44
theorem sc_check_code : FnScope ["modulus", "registers", "rows", "parts", "ports", "deeds", "name", "_", "names", "forms", "lines", "limits", "instruction"] ["modulus", "registers", "rows", "parts", "ports", "deeds"] (defScope s_check_code) := ⟨rfl, rfl, rfl, by decide +kernel, rfl, by decide +kernel, by decide +kernel⟩
abbrev s_check_number : Stmt := top 45
theorem sc_check_number : FnScope ["number", "least", "most", "what"] ["number", "least", "most", "what"] (defScope s_check_number) := ⟨rfl, rfl, rfl, by decide +kernel, rfl, by decide +kernel, by decide +kernel⟩
abbrev s_check_names : Stmt := top 46
theorem sc_check_names : FnScope ["names", "what", "name"] ["names", "what"] (defScope s_check_names) := ⟨rfl, rfl, rfl, by decide +kernel, rfl, by decide +kernel, by decide +kernel⟩
abbrev s_check_rows : Stmt := top 47
theorem sc_check_rows : FnScope ["rows", "modulus", "row", "value"] ["rows", "modulus"] (defScope s_check_rows) := ⟨rfl, rfl, rfl, by decide +kernel, rfl, by decide +kernel, by decide +kernel⟩
abbrev s_check_parts : Stmt := top 48
theorem sc_check_parts : FnScope ["parts", "modulus", "_", "plain", "choice", "name"] ["parts", "modulus"] (defScope s_check_parts) := ⟨rfl, rfl, rfl, by decide +kernel, rfl, by decide +kernel, by decide +kernel⟩
abbrev s_check_ports : Stmt := top 49
theorem sc_check_ports : FnScope ["ports", "names", "modulus", "menu", "deed", "argument"] ["ports", "names", "modulus"] (defScope s_check_ports) := ⟨rfl, rfl, rfl, by decide +kernel, rfl, by decide +kernel, by decide +kernel⟩
abbrev s_check_instruction : Stmt := top 50
theorem sc_check_instruction : FnScope ["instruction", "forms", "limits", "form", "letter", "operand"] ["instruction", "forms", "limits"] (defScope s_check_instruction) := ⟨rfl, rfl, rfl, by decide +kernel, rfl, by decide +kernel, by decide +kernel⟩
abbrev s_check_course : Stmt := top 51
theorem sc_check_course : FnScope ["name", "lines", "last", "instruction", "fused"] ["name", "lines"] (defScope s_check_course) := ⟨rfl, rfl, rfl, by decide +kernel, rfl, by decide +kernel, by decide +kernel⟩
abbrev s_has_fused_ring : Stmt := top 53
theorem sc_has_fused_ring : FnScope ["lines", "at", "remaining", "found", "line", "follower"] ["lines"] (defScope s_has_fused_ring) := ⟨rfl, rfl, rfl, by decide +kernel, rfl, by decide +kernel, by decide +kernel⟩
abbrev s_copied_menu : Stmt := top 56
theorem sc_copied_menu : FnScope ["menu", "deed", "argument"] ["menu"] (defScope s_copied_menu) := ⟨rfl, rfl, rfl, by decide +kernel, rfl, by decide +kernel, by decide +kernel⟩
abbrev s_copied_lines : Stmt := top 57
theorem sc_copied_lines : FnScope ["lines", "instruction", "fused"] ["lines"] (defScope s_copied_lines) := ⟨rfl, rfl, rfl, by decide +kernel, rfl, by decide +kernel, by decide +kernel⟩
abbrev s_first_plain : Stmt := top 67
theorem sc_first_plain : FnScope ["stock"] ["stock"] (defScope s_first_plain) := ⟨rfl, rfl, rfl, by decide +kernel, rfl, by decide +kernel, by decide +kernel⟩
abbrev s_l_plain : Stmt := top 72
theorem sc_l_plain : FnScope ["states", "first", "choices", "known", "c", "got"] ["states", "first", "choices"] (defScope s_l_plain) := ⟨rfl, rfl, rfl, by decide +kernel, rfl, by decide +kernel, by decide +kernel⟩
abbrev s_l_code : Stmt := top 73
theorem sc_l_code : FnScope ["modulus", "many", "rows", "books", "ports", "deeds", "known", "deed"] ["modulus", "many", "rows", "books", "ports", "deeds"] (defScope s_l_code) := ⟨rfl, rfl, rfl, by decide +kernel, rfl, by decide +kernel, by decide +kernel⟩
abbrev s_l_real_plain : Stmt := top 74
theorem sc_l_real_plain : FnScope ["plain"] ["plain"] (defScope s_l_real_plain) := ⟨rfl, rfl, rfl, by decide +kernel, rfl, by decide +kernel, by decide +kernel⟩
abbrev s_l_real_code : Stmt := top 75
theorem sc_l_real_code : FnScope ["code", "books", "menus", "deeds", "book", "menu", "deed", "row"] ["code"] (defScope s_l_real_code) := ⟨rfl, rfl, rfl, by decide +kernel, rfl, by decide +kernel, by decide +kernel⟩
abbrev s_l_real : Stmt := top 76
theorem sc_l_real : FnScope ["stock"] ["stock"] (defScope s_l_real) := ⟨rfl, rfl, rfl, by decide +kernel, rfl, by decide +kernel, by decide +kernel⟩
abbrev s_l_names : Stmt := top 77
theorem sc_l_names : FnScope ["pool", "signs", "way", "base", "k", "at", "j"] ["pool"] (defScope s_l_names) := ⟨rfl, rfl, rfl, by decide +kernel, rfl, by decide +kernel, by decide +kernel⟩
abbrev s_l_things : Stmt := top 78
theorem sc_l_things : FnScope ["pool", "names", "modulus", "numbers", "things", "name"] ["pool", "names", "modulus"] (defScope s_l_things) := ⟨rfl, rfl, rfl, by decide +kernel, rfl, by decide +kernel, by decide +kernel⟩
abbrev s_l_choices : Stmt := top 79
theorem sc_l_choices : FnScope ["pool", "things", "homes", "most", "answers", "choices", "home", "thing", "k", "to", "c"] ["pool", "things", "homes", "most"] (defScope s_l_choices) := ⟨rfl, rfl, rfl, by decide +kernel, rfl, by decide +kernel, by decide +kernel⟩
abbrev s_l_stock : Stmt := top 80
theorem sc_l_stock : FnScope ["pool", "ports", "most", "modulus", "names", "things", "menus", "p", "menu", "cut", "deeds", "step", "homes", "choices", "total", "plain", "k", "thing", "name"] ["pool", "ports", "most"] (defScope s_l_stock) := ⟨rfl, rfl, rfl, by decide +kernel, rfl, by decide +kernel, by decide +kernel⟩
abbrev s_l_state : Stmt := top 81
theorem sc_l_state : FnScope ["pool", "stock", "things", "most", "code", "plain", "number", "marks", "p", "way", "thing"] ["pool", "stock", "things", "most"] (defScope s_l_state) := ⟨rfl, rfl, rfl, by decide +kernel, rfl, by decide +kernel, by decide +kernel⟩
abbrev s_l_options : Stmt := top 82
theorem sc_l_options : FnScope ["plain", "deed", "number", "argument"] ["plain", "deed", "number", "argument"] (defScope s_l_options) := ⟨rfl, rfl, rfl, by decide +kernel, rfl, by decide +kernel, by decide +kernel⟩
abbrev s_l_takes : Stmt := top 83
theorem sc_l_takes : FnScope ["plain", "s", "found", "p", "mark", "c"] ["plain", "s"] (defScope s_l_takes) := ⟨rfl, rfl, rfl, by decide +kernel, rfl, by decide +kernel, by decide +kernel⟩
abbrev s_l_taken : Stmt := top 84
theorem sc_l_taken : FnScope ["plain", "s", "p", "c", "mark", "option"] ["plain", "s", "p", "c"] (defScope s_l_taken) := ⟨rfl, rfl, rfl, by decide +kernel, rfl, by decide +kernel, by decide +kernel⟩
abbrev s_l_take : Stmt := top 86
theorem sc_l_take : FnScope ["real", "s", "pair", "got", "index", "kinds", "e", "other"] ["real", "s", "pair"] (defScope s_l_take) := ⟨rfl, rfl, rfl, by decide +kernel, rfl, by decide +kernel, by decide +kernel⟩
abbrev s_l_state_holds : Stmt := top 87
theorem sc_l_state_holds : FnScope ["real", "plain", "s", "pairs", "due", "told", "pair", "got", "index", "kinds"] ["real", "plain", "s", "pairs"] (defScope s_l_state_holds) := ⟨rfl, rfl, rfl, by decide +kernel, rfl, by decide +kernel, by decide +kernel⟩
abbrev s_PlainBook___init__ : Stmt := inClass (top 62) 0
theorem sc_PlainBook___init__ : FnScope ["self", "states", "first", "choices", "choice"] ["self", "states", "first", "choices"] (defScope s_PlainBook___init__) := ⟨rfl, rfl, rfl, by decide +kernel, rfl, by decide +kernel, by decide +kernel⟩
abbrev s_PlainBook_options : Stmt := inClass (top 62) 1
theorem sc_PlainBook_options : FnScope ["self", "deed", "state", "argument"] ["self", "deed", "state", "argument"] (defScope s_PlainBook_options) := ⟨rfl, rfl, rfl, by decide +kernel, rfl, by decide +kernel, by decide +kernel⟩
abbrev s_CodeBook___init__ : Stmt := inClass (top 55) 0
theorem sc_CodeBook___init__ : FnScope ["self", "modulus", "registers", "rows", "parts", "ports", "deeds", "name", "lines", "row", "plain", "menu"] ["self", "modulus", "registers", "rows", "parts", "ports", "deeds"] (defScope s_CodeBook___init__) := ⟨rfl, rfl, rfl, by decide +kernel, rfl, by decide +kernel, by decide +kernel⟩
abbrev s_Stock___init__ : Stmt := inClass (top 66) 0
theorem sc_Stock___init__ : FnScope ["self", "code", "plain"] ["self", "code", "plain"] (defScope s_Stock___init__) := ⟨rfl, rfl, rfl, by decide +kernel, rfl, by decide +kernel, by decide +kernel⟩
abbrev s_BadMove___init__ : Stmt := inClass (top 6) 0
structure Txt (P : Program) (w : World) (K : PySem.W.Frag) (mg : Str → Option Value) (CPlainBook CCodeBook CStock COddsError CBadShare CBadText CBadBook CBadMove CBadProgram CBadPlan CUnfit CTooLarge CBadEdit CCODE_FORMS CIDLE : Addr) : Prop where
  d_l_int : Df K mg "_law_int" s_l_int
  d_l_pool : Df K mg "_law_pool" s_l_pool
  d_l_draw : Df K mg "_law_draw" s_l_draw
  d_law : Df K mg "law" s_law
  d_is_name : Df K mg "is_name" s_is_name
  d_check_choice : Df K mg "check_choice" s_check_choice
  d_grouped_options : Df K mg "grouped_options" s_grouped_options
  d_l_same : Df K mg "_law_same" s_l_same
  d_done_mark : Df K mg "done_mark" s_done_mark
  d_is_asked : Df K mg "is_asked" s_is_asked
  d_with_mark : Df K mg "with_mark" s_with_mark
  d_take_leads : Df K mg "take_leads" s_take_leads
  d_takes_of : Df K mg "takes_of" s_takes_of
  d_taken : Df K mg "taken" s_taken
  d_form_of : Df K mg "form_of" s_form_of
  d_check_code : Df K mg "check_code" s_check_code
  d_check_number : Df K mg "check_number" s_check_number
  d_check_names : Df K mg "check_names" s_check_names
  d_check_rows : Df K mg "check_rows" s_check_rows
  d_check_parts : Df K mg "check_parts" s_check_parts
  d_check_ports : Df K mg "check_ports" s_check_ports
  d_check_instruction : Df K mg "check_instruction" s_check_instruction
  d_check_course : Df K mg "check_course" s_check_course
  d_has_fused_ring : Df K mg "has_fused_ring" s_has_fused_ring
  d_copied_menu : Df K mg "copied_menu" s_copied_menu
  d_copied_lines : Df K mg "copied_lines" s_copied_lines
  d_first_plain : Df K mg "first_plain" s_first_plain
  d_l_plain : Df K mg "_law_plain" s_l_plain
  d_l_code : Df K mg "_law_code" s_l_code
  d_l_real_plain : Df K mg "_law_real_plain" s_l_real_plain
  d_l_real_code : Df K mg "_law_real_code" s_l_real_code
  d_l_real : Df K mg "_law_real" s_l_real
  d_l_names : Df K mg "_law_names" s_l_names
  d_l_things : Df K mg "_law_things" s_l_things
  d_l_choices : Df K mg "_law_choices" s_l_choices
  d_l_stock : Df K mg "_law_stock" s_l_stock
  d_l_state : Df K mg "_law_state" s_l_state
  d_l_options : Df K mg "_law_options" s_l_options
  d_l_takes : Df K mg "_law_takes" s_l_takes
  d_l_taken : Df K mg "_law_taken" s_l_taken
  d_l_take : Df K mg "_law_take" s_l_take
  d_l_state_holds : Df K mg "_law_state_holds" s_l_state_holds
  n_isinstance : mg "isinstance" = none
  n_int : mg "int" = none
  n_bool : mg "bool" = none
  n_str : mg "str" = none
  n_tuple : mg "tuple" = none
  n_list : mg "list" = none
  n_len : mg "len" = none
  n_abs : mg "abs" = none
  n_max : mg "max" = none
  n_min : mg "min" = none
  n_range : mg "range" = none
  n_ValueError : mg "ValueError" = none
  n_enumerate : mg "enumerate" = none
  n_set : mg "set" = none
  n_dict : mg "dict" = none
  n_sum : mg "sum" = none
  n_sorted : mg "sorted" = none
  n_zip : mg "zip" = none
  g_LETTERS : ∃ u, mg "LETTERS" = some u ∧ RelV (.str "abcdefghijklmnopqrstuvwxyz") u
  g_DIGITS : ∃ u, mg "DIGITS" = some u ∧ RelV (.str "0123456789") u
  g_MOST_NAME_CHARACTERS : ∃ u, mg "MOST_NAME_CHARACTERS" = some u ∧ RelV (.int 20) u
  g_MOST_STATES : ∃ u, mg "MOST_STATES" = some u ∧ RelV (.int 600) u
  g_MOST_OPTIONS : ∃ u, mg "MOST_OPTIONS" = some u ∧ RelV (.int 4) u
  g_VALUE_LIMIT : ∃ u, mg "VALUE_LIMIT" = some u ∧ RelV (.int 8) u
  g_LEAST_MODULUS : ∃ u, mg "LEAST_MODULUS" = some u ∧ RelV (.int 2) u
  g_MOST_MODULUS : ∃ u, mg "MOST_MODULUS" = some u ∧ RelV (.int 8) u
  g_MOST_REGISTERS : ∃ u, mg "MOST_REGISTERS" = some u ∧ RelV (.int 16) u
  g_MOST_ROWS : ∃ u, mg "MOST_ROWS" = some u ∧ RelV (.int 8) u
  g_MOST_CELLS : ∃ u, mg "MOST_CELLS" = some u ∧ RelV (.int 16) u
  g_MOST_PARTS : ∃ u, mg "MOST_PARTS" = some u ∧ RelV (.int 4) u
  g_MOST_PORTS : ∃ u, mg "MOST_PORTS" = some u ∧ RelV (.int 8) u
  g_MOST_ITEMS : ∃ u, mg "MOST_ITEMS" = some u ∧ RelV (.int 6) u
  g_MOST_DEEDS : ∃ u, mg "MOST_DEEDS" = some u ∧ RelV (.int 24) u
  g_MOST_LINES : ∃ u, mg "MOST_LINES" = some u ∧ RelV (.int 160) u
  g_PLACE_LIMIT : ∃ u, mg "PLACE_LIMIT" = some u ∧ RelV (.int 8) u
  g_NAME_LETTER : ∃ u, mg "NAME_LETTER" = some u ∧ RelV (.str "d") u
  g_ASKED : ∃ u, mg "ASKED" = some u ∧ RelV (.int 0) u
  g_DONE : ∃ u, mg "DONE" = some u ∧ RelV (.int 1) u
  pb : PbC K mg CPlainBook
  cb : CbC K mg CCodeBook
  sk : SkC K mg CStock
  d_initCodeBook : ∃ f fd, Mk K CCodeBook f ∧ Fun K "__init__" "CodeBook.__init__" s_CodeBook___init__ f fd
  d_initStock : ∃ f fd, Mk K CStock f ∧ Fun K "__init__" "Stock.__init__" s_Stock___init__ f fd
  d_initPlainBook : ∃ f fd, Mk K CPlainBook f ∧ Fun K "__init__" "PlainBook.__init__" s_PlainBook___init__ f fd
  d_PlainBook_options : Dm K CPlainBook "options" "PlainBook.options" s_PlainBook_options
  x_BadBook : PySem.W.excIn K CBadBook [.type "ValueError", .type "Exception", .type "BaseException", .type "object"] "ValueError.__new__" = true
  e_OddsError : ErrC K mg "OddsError" COddsError
  e_BadShare : ErrC K mg "BadShare" CBadShare
  e_BadText : ErrC K mg "BadText" CBadText
  e_BadBook : ErrC K mg "BadBook" CBadBook
  e_BadMove : ErrC K mg "BadMove" CBadMove
  e_BadProgram : ErrC K mg "BadProgram" CBadProgram
  e_BadPlan : ErrC K mg "BadPlan" CBadPlan
  e_Unfit : ErrC K mg "Unfit" CUnfit
  e_TooLarge : ErrC K mg "TooLarge" CTooLarge
  e_BadEdit : ErrC K mg "BadEdit" CBadEdit
  g_IDLE : ∃ u, mg "IDLE" = some u ∧ RelV (.ref CIDLE) u
  idle : ∀ H, SqT K H CIDLE []
  g_CODE_FORMS : ∃ u, mg "CODE_FORMS" = some u ∧ RelV (.ref CCODE_FORMS) u
  cf : ∃ kvs : List (Key × V), OwnD P w K CCODE_FORMS kvs ∧ kvs.length < 100 ∧ ∃ b, valV kvs (.inr "answer") = some (.ref b) ∧ ∀ H, SqT K H b [.str "r"]
  sup_BadMove : ∃ (f : Addr) (fd : FuncData), SupC P K mg CBadMove f "BadMove.__init__" (defArgs s_BadMove___init__) (defBody s_BadMove___init__) (defScope s_BadMove___init__) "index" fd
  xf_BadMove : XfC K CBadMove
  xfn_BadMove : PySem.W.findIn K (.ref CBadMove) "index" = some none
  upM : PySem.W.subIn K (.ref CBadMove) (.ref COddsError) = some true
  upVM : PySem.W.subIn K (.ref CBadMove) (.type "ValueError") = some true
  selfM : PySem.W.subIn K (.ref CBadMove) (.ref CBadMove) = some true
  nm_BadShare : PySem.W.subIn K (.ref CBadMove) (.ref CBadShare) = some false ∧ CBadMove ≠ CBadShare
  nm_BadText : PySem.W.subIn K (.ref CBadMove) (.ref CBadText) = some false ∧ CBadMove ≠ CBadText
  nm_BadBook : PySem.W.subIn K (.ref CBadMove) (.ref CBadBook) = some false ∧ CBadMove ≠ CBadBook
  nm_BadProgram : PySem.W.subIn K (.ref CBadMove) (.ref CBadProgram) = some false ∧ CBadMove ≠ CBadProgram
  nm_BadPlan : PySem.W.subIn K (.ref CBadMove) (.ref CBadPlan) = some false ∧ CBadMove ≠ CBadPlan
  nm_Unfit : PySem.W.subIn K (.ref CBadMove) (.ref CUnfit) = some false ∧ CBadMove ≠ CUnfit
  nm_TooLarge : PySem.W.subIn K (.ref CBadMove) (.ref CTooLarge) = some false ∧ CBadMove ≠ CTooLarge
  nm_BadEdit : PySem.W.subIn K (.ref CBadMove) (.ref CBadEdit) = some false ∧ CBadMove ≠ CBadEdit
/-! ## what the draws are worth -/
def spPool (K : PySem.W.Frag) : Sp := fun vs H Q _ => ∃ (a : Addr) (ns : List Int) (i : Int), vs = [.ref a, .int i] ∧ Scr K H a ns ∧ 0 ≤ i ∧ ∀ p H', H p = none → Kp [] H H' → Pool H' p → Q (.ref p) H'
def spDraw : Sp := fun vs H Q _ => ∃ (a : Addr) (m : Int), vs = [.ref a, .int m] ∧ Pool H a ∧ m ≤ 10000000000000000000000000000000000000000000000000000000000000000000000 ∧ ∀ r H', 0 ≤ r → (r < m ∨ r = 0) → Kp [a] H H' → Pool H' a → Q (.int r) H'
def spInt : Sp := fun vs H Q _ => ∃ (i : Int), vs = [.int i] ∧ Q (.bl true) H
section
variable {H : Hp} {Q : VK} {E : XK} {K : PySem.W.Frag}
theorem k_pool {a : Addr} {ns : List Int} {i : Int} (hs : Scr K H a ns) (h0 : 0 ≤ i) (k : ∀ p H', H p = none → Kp [] H H' → Pool H' p → Q (.ref p) H') : spPool K ([.ref a, .int i] ++ []) H Q E := ⟨a, ns, i, rfl, hs, h0, k⟩
theorem k_draw {a : Addr} {m : Int} (hp : Pool H a) (hm : m ≤ 10000000000000000000000000000000000000000000000000000000000000000000000) (k : ∀ r H', 0 ≤ r → (r < m ∨ r = 0) → Kp [a] H H' → Pool H' a → Q (.int r) H') : spDraw ([.ref a, .int m] ++ []) H Q E := ⟨a, m, rfl, hp, hm, k⟩
theorem k_int {i : Int} (q : Q (.bl true) H) : spInt ([.int i] ++ []) H Q E := ⟨i, rfl, q⟩
end
local macro_rules | `(tactic| tm_at "step") => `(tactic| first | (with_reducible refine' k_draw ?k1 ?k2 ?_; (case k1 => tm_at "lp"); (case k2 => k_dflt omega); intro r_ H_ h0_ h1_ hk_ hp_) | fail)
local macro_rules | `(tactic| tm_at "step") => `(tactic| first | with_reducible refine k_int ?_ | fail)
local macro_rules | `(tactic| tm_at "step") => `(tactic| first | (with_reducible refine' k_pool ?k1 ?k2 ?_; (case k1 => tm_at "ls"); (case k2 => k_dflt (tm_at "side")); intro p_ H_ hn_ hk_ hp_) | fail)

theorem h_draw {K : PySem.W.Frag} {B : Bs} {H : Hp} {Z : List Addr} {L : List Ent} {M : List (List V × List PyData)} {a : Addr} {F : Ent → List Ent} {m : Int} {Q : VK} {E : XK} (h : Hs K B Z H L M) (l : Loc L (.pool a) F) (hm : m ≤ 10000000000000000000000000000000000000000000000000000000000000000000000)
    (k : ∀ r H', 0 ≤ r → (r < m ∨ r = 0) → Hs K B Z H' L M → Q (.int r) H') : spDraw ([.ref a, .int m] ++ []) H Q E :=
  k_draw (h.pool l) hm fun r H' h0 h1 hk hp => k r H' h0 h1 (h.callW (E := E) l hk hp)
local macro_rules | `(tactic| tm_at "step") => `(tactic| first | (with_reducible refine' h_draw ?k0 ?k1 ?k2 ?_; (case k0 => with_reducible assumption); (case k1 => tm_at "loc"); (case k2 => k_dflt omega); intro r_ H_ h0_ h1_ hs_) | fail)

section
variable {P : Program} {w : World} {K : PySem.W.Frag} {mg : Str → Option Value} {base : Heap} {CPlainBook CCodeBook CStock COddsError CBadShare CBadText CBadBook CBadMove CBadProgram CBadPlan CUnfit CTooLarge CBadEdit CCODE_FORMS CIDLE : Addr}
theorem ok_l_int (T : Txt P w K mg CPlainBook CCodeBook CStock COddsError CBadShare CBadText CBadBook CBadMove CBadProgram CBadPlan CUnfit CTooLarge CBadEdit CCODE_FORMS CIDLE) : Fc P w K mg base CX0 1 "_law_int" ["x"] (spInt) := by
  refine fc_of T.d_l_int sc_l_int (fun vs H Q E h => by obtain ⟨i, rfl, k⟩ := h; rfl) (fun _ _ _ _ _ _ us hl => match us, hl with | [_], _ => rfl) fun f cdv A outer s H vs Q E hr h => ⟨_, (pss_one (ps_ret (pe_and (pe_callB (isiK K) (by rfl) T.n_isinstance b_isinstance (pa_cons (pv 0) (pa_cons (pe_bltn (v := .ty "int") (by rfl) T.n_int b_int rfl) pa_nil))) (pe_one (pe_not (pe_callB (isiK K) (by rfl) T.n_isinstance b_isinstance (pa_cons (pv 0) (pa_cons (pe_bltn (v := .ty "bool") (by rfl) T.n_bool b_bool rfl) pa_nil)))))))), ?_⟩
  obtain ⟨i, rfl, k⟩ := h
  tm_at "go"
  exact k
theorem ok_l_pool (T : Txt P w K mg CPlainBook CCodeBook CStock COddsError CBadShare CBadText CBadBook CBadMove CBadProgram CBadPlan CUnfit CTooLarge CBadEdit CCODE_FORMS CIDLE) : Fc P w K mg base CX0 1 "_law_pool" ["script", "at"] (spPool K) := by
  refine fc_of T.d_l_pool sc_l_pool (fun vs H Q E h => by obtain ⟨a, ns, i, rfl, hs, h0, k⟩ := h; rfl) (fun _ _ _ _ _ _ us hl => match us, hl with | [_, _], _ => rfl) fun f cdv A outer s H vs Q E hr h => ⟨_, (pss_cons (ps_set (i := 2) sc_l_pool.nd rfl (Or.inl rfl) pe_int)
 (pss_cons (ps_if (pt_cmpR op_lt (pv 1) (pe_callB (lenK K) (by rfl) T.n_len b_len (pa_cons (pv 0) pa_nil)) (nomark _))
 (pss_one (ps_set (i := 2) sc_l_pool.nd rfl (Or.inl rfl) (pe_callB c_abs (by rfl) T.n_abs b_abs (pa_cons (pe_callTy c_int1 (by rfl) T.n_int b_int (pa_cons (pe_ix (ixlK K) (pv 0) (pv 1) (fun _ _ => rfl)) pa_nil)) pa_nil))))
 pss_nil)
 (pss_cons (ps_set (i := 3) sc_l_pool.nd rfl (Or.inl rfl) (pe_op op_add (pe_callTy c_int1 (by rfl) T.n_int b_int (pa_cons (pe_cmpR op_gt (pv 2) pe_int (nomark _)) pa_nil)) (pe_callTy c_int1 (by rfl) T.n_int b_int (pa_cons (pe_cmpR op_ge (pv 2) (pe_op op_pow pe_int pe_int) (nomark _)) pa_nil))))
 (pss_one (ps_ret (pe_lst (pa_cons (pv 2) (pa_cons (pe_op op_mod (pe_callTy c_int1 (by rfl) T.n_int b_int (pa_cons (pv 2) pa_nil)) pe_int) (pa_cons pe_int (pa_cons (pv 3) pa_nil)))))))))), ?_⟩
  obtain ⟨a, ns, i, rfl, hs, h0, k⟩ := h
  tm_at "go"
  · rename_i hc
    obtain ⟨z, hz⟩ := atI_int h0 hc
    refine u_ixL hs.sq hz ?_
    tm_at "run"
    rename_i hp
    exact k _ _ (by assumption) (by assumption) ⟨_, _, _, _, hp⟩
  · rename_i hp
    exact k _ _ (by assumption) (by assumption) ⟨_, _, _, _, hp⟩
theorem ok_l_draw (T : Txt P w K mg CPlainBook CCodeBook CStock COddsError CBadShare CBadText CBadBook CBadMove CBadProgram CBadPlan CUnfit CTooLarge CBadEdit CCODE_FORMS CIDLE) : Fc P w K mg base CX0 1 "_law_draw" ["pool", "many"] (spDraw) := by
  refine fc_of T.d_l_draw sc_l_draw (fun vs H Q E h => by obtain ⟨a, m, rfl, ⟨c, x, n, j, hp⟩, hm, k⟩ := h; rfl) (fun _ _ _ _ _ _ us hl => match us, hl with | [_, _], _ => rfl) fun f cdv A outer s H vs Q E hr h => ⟨_, (pss_cons (ps_asg (pe_op op_add (pe_ix (ixlK K) (pv 0) pe_int (fun _ _ => rfl)) pe_int) (pg_sub (pv 0) pe_int set_list))
 (pss_cons (ps_if (PW.pt (pw_or (pt_cmpR op_eq (pe_ix (ixlK K) (pv 0) pe_int (fun _ _ => rfl)) pe_int (nomark _)) (pw_or1 (pt_cmpR op_lt (pv 1) pe_int (nomark _)))))
 (pss_one (ps_ret pe_int))
 pss_nil)
 (pss_cons (ps_if (PW.pt (pw_and (pt_cmpR op_eq (pe_ix (ixlK K) (pv 0) pe_int (fun _ _ => rfl)) pe_int (nomark _)) (pw_and1 (pt_cmpR op_gt (pe_ix (ixlK K) (pv 0) pe_int (fun _ _ => rfl)) pe_int (nomark _)))))
 (pss_cons (ps_set (i := 2) sc_l_draw.nd rfl (Or.inl rfl) (pe_op op_mod (pe_callTy c_int1 (by rfl) T.n_int b_int (pa_cons (pe_ix (ixlK K) (pv 0) pe_int (fun _ _ => rfl)) pa_nil)) (pv 1)))
 (pss_cons (ps_asg (pe_op op_fdivW (pe_ix (ixlK K) (pv 0) pe_int (fun _ _ => rfl)) (pv 1)) (pg_sub (pv 0) pe_int set_list))
 (pss_one (ps_ret (pv 2)))))
 pss_nil)
 (pss_cons (ps_set (i := 3) sc_l_draw.nd rfl (Or.inl rfl) (pe_op op_mod (pe_callTy c_int1 (by rfl) T.n_int b_int (pa_cons (pe_op op_add (pe_op op_add (pe_op op_mul (pe_ix (ixlK K) (pv 0) pe_int (fun _ _ => rfl)) pe_int) (pe_op op_mul (pe_ix (ixlK K) (pv 0) pe_int (fun _ _ => rfl)) pe_int)) pe_int) pa_nil)) pe_int))
 (pss_cons (ps_set (i := 3) sc_l_draw.nd rfl (Or.inl rfl) (pe_op op_mod (pe_callTy c_int1 (by rfl) T.n_int b_int (pa_cons (pe_op op_add (pe_op op_mul (pv 3) (pv 3)) (pe_ix (ixlK K) (pv 0) pe_int (fun _ _ => rfl))) pa_nil)) pe_int))
 (pss_cons (ps_set (i := 3) sc_l_draw.nd rfl (Or.inl rfl) (pe_op op_mod (pe_callTy c_int1 (by rfl) T.n_int b_int (pa_cons (pe_op op_add (pe_op op_mul (pv 3) (pv 3)) (pe_ix (ixlK K) (pv 0) pe_int (fun _ _ => rfl))) pa_nil)) pe_int))
 (pss_one (ps_ret (pe_op op_mod (pe_callTy c_int1 (by rfl) T.n_int b_int (pa_cons (pe_op op_fdivW (pv 3) pe_int) pa_nil)) (pv 1)))))))))), ?_⟩
  obtain ⟨a, m, rfl, ⟨c, x, n, j, hp⟩, hm, k⟩ := h
  tm_at "go"
  · exact k _ _ (by omega) (by omega) (by tm_at "kc") ⟨_, _, _, _, by assumption⟩
  · exact k _ _ (by omega) (by omega) (by tm_at "kc") ⟨_, _, _, _, by assumption⟩
  all_goals exact k _ _ (Int.emod_nonneg _ (by omega)) (Or.inl (Int.emod_lt_of_pos _ (by omega))) (by tm_at "kc") ⟨_, _, _, _, by assumption⟩
end

set_option Elab.async false
set_option linter.all false
set_option autoImplicit false
set_option maxRecDepth 100000
set_option maxHeartbeats 4000000

/-! my own steps: rows of tactics, tried from above -/

/-! steps over Hs -/

local macro_rules | `(tactic| tm_at "ln") => `(tactic| first | with_reducible assumption | omega | (simp only [SX.S_len, Str.length_append]; omega) | fail)
local macro_rules | `(tactic| tm_at "lg") => `(tactic| first | with_reducible assumption | (with_reducible refine' bt_log ?k1; (case k1 => tm_at "bm")) | fail)
local macro_rules | `(tactic| tm_at "step") => `(tactic| first
  | with_reducible refine u_eqS ?_
  | with_reducible refine u_neS ?_
  | with_reducible refine bm_str ?_
  | with_reducible refine u_bm0 ?_
  | with_reducible refine u_find ?_
  | with_reducible refine u_asc ?_
  | with_reducible refine u_dgt ?_
  | with_reducible refine u_inS ?_
  | with_reducible refine u_niS ?_
  | with_reducible refine u_isNn ?_
  | with_reducible refine u_isNr ?_
  | (with_reducible refine' u_partS ?k1 ?k2 ?_; (case k1 => k_dflt rfl); (case k2 => tm_at "ln"); intro p_ H_ hn_ hk_ ho_)
  | (with_reducible refine' u_rmp ?k1 ?_; (case k1 => tm_at "ln"))
  | (with_reducible refine' u_addS ?k1 ?_; (case k1 => tm_at "ln"))
  | (with_reducible refine' u_lenS ?k1 ?_; (case k1 => tm_at "ln"))
  | (with_reducible refine' u_strI ?k1 ?_; (case k1 => tm_at "lg"))
  | (with_reducible refine' u_slX ?k1 ?_; (case k1 => tm_at "ln"))
  | with_reducible refine u_iS ?_
  | with_reducible refine u_iSq ?_
  | with_reducible refine u_join ?_
  | with_reducible refine js_cons ?_
  | with_reducible refine js_nil ?_
  | (with_reducible refine' jsQ ?k1 ?_; (case k1 => tm_at "ln"))
  | with_reducible refine u_fmt ?_
  | (with_reducible refine' fmtI ?k1 ?_; (case k1 => tm_at "lg"))
  | fail)

/-! names -/
def letC (c : Nat) : Bool := decide (97 ≤ c ∧ c ≤ 122)
def digC (c : Nat) : Bool := decide (48 ≤ c ∧ c ≤ 57)
def isName (z : Str) : Bool := decide (1 ≤ z.length) && decide (z.length ≤ 20) && (z.cps.toList.head?.any letC) && z.cps.toList.all fun c => letC c || digC c
theorem mem_let {c : Nat} : c ∈ (Str.ofString "abcdefghijklmnopqrstuvwxyz").cps.toList ↔ letC c = true := by
  have e : (Str.ofString "abcdefghijklmnopqrstuvwxyz").cps.toList = (List.range 26).map (97 + ·) := by decide +kernel
  rw [e]
  unfold letC
  simp only [List.mem_map, List.mem_range, decide_eq_true_eq]
  constructor
  · rintro ⟨a, h, rfl⟩; omega
  · intro h; exact ⟨c - 97, by omega, by omega⟩
theorem mem_dig {c : Nat} : c ∈ (Str.ofString "0123456789").cps.toList ↔ digC c = true := by
  have e : (Str.ofString "0123456789").cps.toList = (List.range 10).map (48 + ·) := by decide +kernel
  rw [e]
  unfold digC
  simp only [List.mem_map, List.mem_range, decide_eq_true_eq]
  constructor
  · rintro ⟨a, h, rfl⟩; omega
  · intro h; exact ⟨c - 48, by omega, by omega⟩
theorem mem_ld {c : Nat} : c ∈ (Str.ofString "abcdefghijklmnopqrstuvwxyz0123456789").cps.toList ↔ (letC c || digC c) = true := by
  have e : (Str.ofString "abcdefghijklmnopqrstuvwxyz0123456789").cps.toList = (Str.ofString "abcdefghijklmnopqrstuvwxyz").cps.toList ++ (Str.ofString "0123456789").cps.toList := by decide +kernel
  rw [e, List.mem_append, mem_let, mem_dig, Bool.or_eq_true]
theorem isName_short {z : Str} (h : z.length < 1) : isName z = false := by unfold isName; rw [decide_eq_false (by omega)]; rfl
theorem isName_long {z : Str} (h : 20 < z.length) : isName z = false := by unfold isName; rw [decide_eq_false (p := z.length ≤ 20) (by omega)]; simp
theorem head_at {z : Str} {c : Nat} (h : atI z.cps.toList 0 = some c) : z.cps.toList.head? = some c := by
  cases e : z.cps.toList with
  | nil => rw [e] at h; cases h
  | cons a r =>
    rw [e] at h
    have e2 : atI (a :: r) ((0 : Nat) : Int) = some a := atI_nat rfl
    have e3 : atI (a :: r) ((0 : Nat) : Int) = some c := h
    rw [e2] at e3
    exact e3
theorem isName_head {z : Str} {c : Nat} (h : atI z.cps.toList 0 = some c) (n : letC c = false) : isName z = false := by
  unfold isName
  rw [head_at h]
  simp [n]
theorem isName_all {z : Str} {c : Nat} (h : atI z.cps.toList 0 = some c) (n : letC c = true) (h1 : 1 ≤ z.length) (h2 : z.length ≤ 20) : isName z = z.cps.toList.all fun c => letC c || digC c := by
  unfold isName
  rw [head_at h, decide_eq_true h1, decide_eq_true h2]
  simp [n]
abbrev S_is_name : List PyData → (PyData → Prop) → Prop := fun ds φ => ∃ (z : Str), ds = [.str z] ∧ (z.length ≤ 90000) ∧ (φ (.bool (isName z)))
theorem sp_is_name {φ : PyData → Prop} {z : Str} (p_ : z.length ≤ 90000) (k_ : φ (.bool (isName z))) : S_is_name [.str z] φ := ⟨z, rfl, p_, k_⟩
local macro_rules | `(tactic| tm_at "step") => `(tactic| first | (with_reducible refine' sp_is_name ?k1 ?_; (case k1 => tm_at "pre")) | fail)


section
variable {P : Program} {w : World} {K : PySem.W.Frag} {mg : Str → Option Value} {base : Heap} {CPlainBook CCodeBook CStock COddsError CBadShare CBadText CBadBook CBadMove CBadProgram CBadPlan CUnfit CTooLarge CBadEdit CCODE_FORMS CIDLE : Addr}
theorem ok_is_name (T : Txt P w K mg CPlainBook CCodeBook CStock COddsError CBadShare CBadText CBadBook CBadMove CBadProgram CBadPlan CUnfit CTooLarge CBadEdit CCODE_FORMS CIDLE) : Fc P w K mg base CX0 1 "is_name" ["word"] (spV K S_is_name) := by
  refine fc_of T.d_is_name sc_is_name (fun vs H Q E h => by obtain ⟨Z, ds, zl, q, z, rfl, pre, k⟩ := h; have := q.length; rw [this]; rfl) (fun _ _ _ _ _ _ us hl => match us, hl with | [_], _ => rfl) fun f cdv A outer s H vs Q E hr h => ⟨_, (pss_cons (ps_if (PW.pt (pw_or (pt_not (pt_chain op_le op_le pe_int (pe_callB c_lenS (by rfl) T.n_len b_len (pa_cons (pv 0) pa_nil)) (C8.pe_gc (v := .int 20) rfl T.g_MOST_NAME_CHARACTERS))) (pw_or1 (pt_cmpR o_niS (pe_ix ix_str (pv 0) pe_int (fun _ _ => rfl)) (C8.pe_gc rfl T.g_LETTERS) rfl))))
 (pss_one (ps_ret pe_bl))
 pss_nil)
 (pss_cons (ps_for PassesOwn.never rfl (pi_str (pv 0)) (pg_name (i := 1) sc_is_name.nd rfl (Or.inl rfl))
 (pss_one (ps_if (PW.pt (pw_and (pt_cmpR o_niS (pv 1) (C8.pe_gc rfl T.g_LETTERS) rfl) (pw_and1 (pt_cmpR o_niS (pv 1) (C8.pe_gc rfl T.g_DIGITS) rfl))))
 (pss_one (ps_ret pe_bl))
 pss_nil)))
 (pss_one (ps_ret pe_bl)))), ?_⟩
  obtain ⟨Z, ds, zl, q, z, rfl, pre, k⟩ := h
  have hs := in_v zl q
  obtain ⟨_, e_, h2⟩ := hs.argS; clear hs; subst e_; have hs := h2; clear h2
  obtain ⟨e_, h2⟩ := hs.argN; clear hs; subst e_; have hs := h2; clear h2
  tm_at "go"
  · refine u_ixS (by omega) (by omega) (by omega) fun c hc => ?_
    tm_at "run"
    · rename_i h1 h2 hn
      rw [isName_all hc (mem_let.mp hn) (by omega) (by omega)] at k
      refine l_str (fun i σ H' => ∃ v, σ = [some (.str z), v] ∧ H' = H ∧ ∀ x ∈ z.cps.toList.take i, (letC x || digC x) = true) ?_ ?_ ?_
      · exact ⟨none, rfl, rfl, by simp⟩
      · rintro i c2 σ H' hx ⟨v, rfl, rfl, hall⟩
        have bad : ¬ c2 ∈ (Str.ofString "abcdefghijklmnopqrstuvwxyz").cps.toList → ¬ c2 ∈ (Str.ofString "0123456789").cps.toList → (z.cps.toList.all fun c => letC c || digC c) = false := fun a b => by
          rw [mem_let] at a
          rw [mem_dig] at b
          rw [List.all_eq_false]
          exact ⟨c2, List.mem_of_getElem? hx, by simp [a, b]⟩
        have good : (c2 ∈ (Str.ofString "abcdefghijklmnopqrstuvwxyz").cps.toList ∨ c2 ∈ (Str.ofString "0123456789").cps.toList) → ∀ x ∈ z.cps.toList.take (i + 1), (letC x || digC x) = true := fun a x hx2 => by
          rw [_root_.Fr.take_more hx] at hx2
          rcases List.mem_append.mp hx2 with h | h
          · exact hall x h
          · rw [List.mem_singleton.mp h, Bool.or_eq_true, ← mem_let, ← mem_dig]; exact a
        tm_at "run"
        · rename_i a
          exact ⟨_, rfl, rfl, good (.inl a)⟩
        · rename_i a b
          exact ⟨_, rfl, rfl, good (.inr b)⟩
        · rename_i a b
          tm_at "finv"
          rw [bad a b] at k
          exact k
      · rintro σ H' ⟨v, rfl, rfl, hall⟩
        tm_at "run"
        tm_at "finv"
        have e : (z.cps.toList.all fun c => letC c || digC c) = true := List.all_eq_true.mpr (by rw [List.take_length] at hall; exact hall)
        rw [e] at k
        exact k
    · rename_i h1 h2 hn
      tm_at "finv"
      rw [isName_head hc (by rw [mem_let] at hn; simpa using hn)] at k
      exact k
  · tm_at "finv"
    rw [isName_long (by omega)] at k
    exact k
  · tm_at "finv"
    rw [isName_short (by omega)] at k
    exact k
abbrev S_same (n : Nat) : List PyData → (PyData → Prop) → Prop := fun ds φ => ∃ d, ds = [d, d] ∧ (d.depth < n ∧ wid d ≤ 100000) ∧ φ (.bool true)
theorem ok_l_same (T : Txt P w K mg CPlainBook CCodeBook CStock COddsError CBadShare CBadText CBadBook CBadMove CBadProgram CBadPlan CUnfit CTooLarge CBadEdit CCODE_FORMS CIDLE) : ∀ n : Nat, Fc P w K mg base CX0 (n + 2) "_law_same" ["told", "due"] (spV K (S_same n)) := by
  intro n
  induction n with
  | zero =>
    refine fc_of T.d_l_same sc_l_same (fun vs H Q E h => by obtain ⟨Z, ds, zl, q, d, rfl, pre, k⟩ := h; have := q.length; rw [this]; rfl) (fun _ _ _ _ _ _ us hl => match us, hl with | [_, _], _ => rfl) fun f cdv A outer s H vs Q E hr h => ?_
    obtain ⟨Z, ds, zl, q, d, rfl, pre, k⟩ := h
    exact absurd pre.1 (Nat.not_lt_zero _)
  | succ n IH => 
    refine fc_of T.d_l_same sc_l_same (fun vs H Q E h => by obtain ⟨Z, ds, zl, q, d, rfl, pre, k⟩ := h; have := q.length; rw [this]; rfl) (fun _ _ _ _ _ _ us hl => match us, hl with | [_, _], _ => rfl) fun f cdv A outer s H vs Q E hr h => ⟨_, (pss_cons (ps_if (pt_cmpR o_isN (pv 1) pe_non (nomark _))
 (pss_one (ps_ret (pe_cmpR o_isN (pv 0) pe_non (nomark _))))
 pss_nil)
 (pss_cons (ps_if (pt_val (pe_callB (isiK K) (by rfl) T.n_isinstance b_isinstance (pa_cons (pv 1) (pa_cons (pe_bltn (v := .ty "bool") (by rfl) T.n_bool b_bool rfl) pa_nil))))
 (pss_one (ps_ret (pe_and (pe_callB (isiK K) (by rfl) T.n_isinstance b_isinstance (pa_cons (pv 0) (pa_cons (pe_bltn (v := .ty "bool") (by rfl) T.n_bool b_bool rfl) pa_nil))) (pe_one (pe_cmpR op_eq (pv 0) (pv 1) (nomark _))))))
 pss_nil)
 (pss_cons (ps_if (pt_val (pe_callB (isiK K) (by rfl) T.n_isinstance b_isinstance (pa_cons (pv 1) (pa_cons (pe_bltn (v := .ty "str") (by rfl) T.n_str b_str rfl) pa_nil))))
 (pss_one (ps_ret (pe_and (pe_callB (isiK K) (by rfl) T.n_isinstance b_isinstance (pa_cons (pv 0) (pa_cons (pe_bltn (v := .ty "str") (by rfl) T.n_str b_str rfl) pa_nil))) (pe_one (pe_cmpR op_eq (pv 0) (pv 1) (nomark _))))))
 pss_nil)
 (pss_cons (ps_if (pt_val (pe_callB (isiK K) (by rfl) T.n_isinstance b_isinstance (pa_cons (pv 1) (pa_cons (pe_bltn (v := .ty "int") (by rfl) T.n_int b_int rfl) pa_nil))))
 (pss_one (ps_ret (pe_and (pe_fc (ok_l_int T) pass0 (hr.mono (by omega)) (pa_cons (pv 0) pa_nil)) (pe_one (pe_cmpR op_eq (pv 0) (pv 1) (nomark _))))))
 pss_nil)
 (pss_cons (ps_if (PW.pt (pw_and (pt_val (pe_callB (isiK K) (by rfl) T.n_isinstance b_isinstance (pa_cons (pv 1) (pa_cons (pe_bltn (v := .ty "tuple") (by rfl) T.n_tuple b_tuple rfl) pa_nil)))) (pw_and1 (pt_not (pt_val (pe_callB (isiK K) (by rfl) T.n_isinstance b_isinstance (pa_cons (pv 0) (pa_cons (pe_bltn (v := .ty "tuple") (by rfl) T.n_tuple b_tuple rfl) pa_nil))))))))
 (pss_one (ps_ret pe_bl))
 pss_nil)
 (pss_cons (ps_if (PW.pt (pw_and (pt_val (pe_callB (isiK K) (by rfl) T.n_isinstance b_isinstance (pa_cons (pv 1) (pa_cons (pe_bltn (v := .ty "list") (by rfl) T.n_list b_list rfl) pa_nil)))) (pw_and1 (pt_not (pt_val (pe_callB (isiK K) (by rfl) T.n_isinstance b_isinstance (pa_cons (pv 0) (pa_cons (pe_bltn (v := .ty "list") (by rfl) T.n_list b_list rfl) pa_nil))))))))
 (pss_one (ps_ret pe_bl))
 pss_nil)
 (pss_cons (ps_if (pt_cmpR op_ne (pe_callB (lenK K) (by rfl) T.n_len b_len (pa_cons (pv 0) pa_nil)) (pe_callB (lenK K) (by rfl) T.n_len b_len (pa_cons (pv 1) pa_nil)) (nomark _))
 (pss_one (ps_ret pe_bl))
 pss_nil)
 (pss_cons (ps_for PassesOwn.never rfl (pi_range1 (by rfl) T.n_range (pa_cons (pe_callB (lenK K) (by rfl) T.n_len b_len (pa_cons (pv 1) pa_nil)) pa_nil)) (pg_name (i := 2) sc_l_same.nd rfl (Or.inl rfl))
 (pss_one (ps_if (pt_not (pt_val (pe_fc IH pass0 (hr.mono (by omega)) (pa_cons (pe_ix (ixAK K) (pv 0) (pv 2) (fun _ _ => rfl)) (pa_cons (pe_ix (ixAK K) (pv 1) (pv 2) (fun _ _ => rfl)) pa_nil)))))
 (pss_one (ps_ret pe_bl))
 pss_nil)))
 (pss_one (ps_ret pe_bl)))))))))), ?_⟩
    obtain ⟨Z, ds, zl, q, d, rfl, pre, k⟩ := h
    have hs := in_v zl q
    obtain ⟨v0, _, e_, h2⟩ := hs.arg; clear hs; subst e_; have hs := h2; clear h2
    obtain ⟨v1, _, e_, h2⟩ := hs.arg; clear hs; subst e_; have hs := h2; clear h2
    obtain ⟨e_, h2⟩ := hs.argN; clear hs; subst e_; have hs := h2; clear h2
    have q0 : Dt K Z H v0 d := hs.dt (by tm_at "mem")
    have q1 : Dt K Z H v1 d := hs.dt (by tm_at "mem")
    cases d with
    | none =>
      rw [q0.non_inv, q1.non_inv] at hs ⊢
      tm_at "go"
      tm_at "finv"
      exact k
    | bool b =>
      rw [q0.bl_inv, q1.bl_inv] at hs ⊢
      tm_at "go"
      rw [decide_eq_true rfl]
      tm_at "finv"
      exact k
    | int b =>
      rw [q0.int_inv, q1.int_inv] at hs ⊢
      tm_at "go"
      rw [decide_eq_true rfl]
      tm_at "finv"
      exact k
    | str b =>
      rw [q0.str_inv, q1.str_inv] at hs ⊢
      tm_at "go"
      rw [decide_eq_true rfl]
      tm_at "finv"
      exact k
    | dict b => cases q0
    | tuple es =>
      obtain ⟨a0, xs0, rfl, t0, p0⟩ := q0.tup_inv
      obtain ⟨a1, xs1, rfl, t1, p1⟩ := q1.tup_inv
      have dd : PyData.depthAll es < n := by have := pre.1; simp only [PyData.depth] at this; omega
      have ww : es.length ≤ 100000 ∧ wids es ≤ 100000 := by have := pre.2; simp only [wid] at this; omega
      tm_at "go"
      · refine l_range (fun i σ H' => ∃ v, σ = [some (.ref a0), some (.ref a1), v] ∧ Hs K ⟨H, [], Z⟩ Z H' [] [([V.ref a1], [PyData.tuple es]), ([V.ref a0], [PyData.tuple es])]) ?_ ?_ ?_
        · exact ⟨none, rfl, hs⟩
        · rintro i σ H' hi ⟨v, rfl, hs1⟩
          have hi : i < es.length := by omega
          have ei : es[i]? = some es[i] := List.getElem?_eq_getElem hi
          have e2 : atI es (0 + (i : Int)) = some es[i] := by rw [Int.zero_add]; exact atI_nat ei
          have d1 := dep_mem ei
          have w1 := wid_mem ei
          tm_at "run"
          refine h_ixA hs1 (.inl (by tm_at "dt")) e2 fun x qx hs2 => ?_
          tm_at "run"
          refine h_ixA hs2 (.inl (by tm_at "dt")) e2 fun y qy hs3 => ?_
          tm_at "run"
          refine ⟨_, rfl, ⟨by omega, by omega⟩, ?_⟩
          tm_at "run"
          exact ⟨_, rfl, by tm_at "wk"⟩
        · rintro σ H' ⟨v, rfl, hs1⟩
          tm_at "run"
          tm_at "finv"
          exact k
      · rename_i hc
        exact absurd rfl hc
    | list es =>
      obtain ⟨a0, xs0, rfl, z0, t0, p0⟩ := q0.lst_inv
      obtain ⟨a1, xs1, rfl, z1, t1, p1⟩ := q1.lst_inv
      have dd : PyData.depthAll es < n := by have := pre.1; simp only [PyData.depth] at this; omega
      have ww : es.length ≤ 100000 ∧ wids es ≤ 100000 := by have := pre.2; simp only [wid] at this; omega
      tm_at "go"
      · refine l_range (fun i σ H' => ∃ v, σ = [some (.ref a0), some (.ref a1), v] ∧ Hs K ⟨H, [], Z⟩ Z H' [] [([V.ref a1], [PyData.list es]), ([V.ref a0], [PyData.list es])]) ?_ ?_ ?_
        · exact ⟨none, rfl, hs⟩
        · rintro i σ H' hi ⟨v, rfl, hs1⟩
          have hi : i < es.length := by omega
          have ei : es[i]? = some es[i] := List.getElem?_eq_getElem hi
          have e2 : atI es (0 + (i : Int)) = some es[i] := by rw [Int.zero_add]; exact atI_nat ei
          have d1 := dep_mem ei
          have w1 := wid_mem ei
          tm_at "run"
          refine h_ixA hs1 (.inr (by tm_at "dt")) e2 fun x qx hs2 => ?_
          tm_at "run"
          refine h_ixA hs2 (.inr (by tm_at "dt")) e2 fun y qy hs3 => ?_
          tm_at "run"
          refine ⟨_, rfl, ⟨by omega, by omega⟩, ?_⟩
          tm_at "run"
          exact ⟨_, rfl, by tm_at "wk"⟩
        · rintro σ H' ⟨v, rfl, hs1⟩
          tm_at "run"
          tm_at "finv"
          exact k
      · rename_i hc
        exact absurd rfl hc

end


/-! my own steps: rows of tactics, tried from above -/

/-! steps over Hs -/



/-! books -/
structure Ch where
  nm : Str
  h : Int
  a : Int
  t : Int
  r : Int
  deriving DecidableEq
abbrev eCh (c : Ch) : PyData := .tuple [.str c.nm, .int c.h, .int c.a, .int c.t, .int c.r]
abbrev eBk (s f : Int) (cs : List Ch) : PyData := .tuple [.int s, .int f, .list (cs.map eCh)]
def Sml (n : Nat) (cs : List Ch) : Prop := cs.length ≤ n ∧ ∀ c ∈ cs, c.nm.length ≤ 300
theorem Sml.app {n m : Nat} {a b : List Ch} (h : Sml n a) (h' : Sml m b) : Sml (n + m) (a ++ b) := by
  refine ⟨by rw [List.length_append]; have := h.1; have := h'.1; omega, fun c hc => ?_⟩
  rcases List.mem_append.mp hc with z | z
  · exact h.2 c z
  · exact h'.2 c z
theorem Sml.mono {n m : Nat} {a : List Ch} (h : Sml n a) (l : n ≤ m) : Sml m a := ⟨Nat.le_trans h.1 l, h.2⟩
theorem Sml.one {c : Ch} (h : c.nm.length ≤ 300) : Sml 1 [c] := ⟨Nat.le_refl _, fun x hx => by rw [List.mem_singleton.mp hx]; exact h⟩
theorem Sml.nil : Sml 0 [] := ⟨Nat.le_refl _, fun x hx => by cases hx⟩
theorem Sml.sub {n : Nat} {a b : List Ch} (h : Sml n a) (l : b.length ≤ a.length) (s : ∀ x ∈ b, x ∈ a) : Sml n b := ⟨Nat.le_trans l h.1, fun c hc => h.2 c (s c hc)⟩
theorem at_map {α : Type} {f : α → PyData} {l : List α} {i : Nat} {d : PyData} (h : (l.map f)[i]? = some d) : ∃ x, l[i]? = some x ∧ d = f x := by
  rw [List.getElem?_map] at h
  cases e : l[i]? with
  | none => rw [e] at h; cases h
  | some x => rw [e] at h; exact ⟨x, rfl, (Option.some.inj h).symm⟩
theorem dep_chs (cs : List Ch) : PyData.depthAll (cs.map eCh) ≤ 60 := Nat.le_trans (dep_map eCh 1 (fun _ => Nat.le_refl _) cs) (by decide)





/-! what a book is -/
abbrev eChL (c : Ch) : PyData := .list [.str c.nm, .int c.h, .int c.a, .int c.t, .int c.r]
abbrev eK (k : Str × Int × Int) : PyData := .tuple [.str k.1, .int k.2.1, .int k.2.2]
def sameK (c d : Ch) : Bool := decide (c.nm = d.nm ∧ c.h = d.h ∧ c.a = d.a)
def okCh (s : Int) (c : Ch) : Bool := isName c.nm && decide (0 ≤ c.h ∧ c.h < s ∧ 0 ≤ c.t ∧ c.t < s ∧ 0 ≤ c.a ∧ c.a ≤ 7 ∧ 0 ≤ c.r ∧ c.r ≤ 7)
def goodG (cs : List Ch) : Bool := cs.all fun c => decide ((cs.filter (fun d => decide (d = c))).length ≤ 1) && decide ((cs.filter (fun d => sameK d c)).length ≤ 4)
def headOk (s f : Int) : Bool := decide (1 ≤ s ∧ s ≤ 600 ∧ 0 ≤ f ∧ f < s)
def isBook (s f : Int) (cs : List Ch) : Bool := headOk s f && (cs.all (okCh s) && goodG cs)
theorem eCh_inj {c d : Ch} (h : eCh c = eCh d) : c = d := by
  cases c; cases d
  simp only [eCh, PyData.tuple.injEq, List.cons.injEq, PyData.str.injEq, PyData.int.injEq, and_true] at h
  obtain ⟨rfl, rfl, rfl, rfl, rfl⟩ := h
  rfl
theorem eqv_ch {c d : Ch} : PyData.eqv (eCh c) (eCh d) = decide (c = d) := by
  rw [Bool.eq_iff_iff, eqv_iff _ _ rfl rfl, decide_eq_true_iff]
  exact ⟨eCh_inj, fun h => by rw [h]⟩
theorem eqv_key {a b : Str} {i j k l : Int} : PyData.eqv (.tuple [.str a, .int i, .int j]) (.tuple [.str b, .int k, .int l]) = decide (a = b ∧ i = k ∧ j = l) := by
  rw [Bool.eq_iff_iff, eqv_iff _ _ rfl rfl, decide_eq_true_iff]
  simp
theorem mem_two {α : Type} [DecidableEq α] {l : List α} {c : α} (h : c ∈ l) : 1 ≤ (l.filter (fun d => decide (d = c))).length := by
  have : c ∈ l.filter (fun d => decide (d = c)) := List.mem_filter.mpr ⟨h, by simp⟩
  exact List.length_pos_of_mem this
def gstep (l : List Ch) (c : Ch) : Prop := c ∉ l ∧ (l.filter (fun d => sameK d c)).length < 4
theorem goodG_iff {cs : List Ch} : goodG cs = true ↔ ∀ c ∈ cs, (cs.filter (fun d => decide (d = c))).length ≤ 1 ∧ (cs.filter (fun d => sameK d c)).length ≤ 4 := by
  unfold goodG
  simp only [List.all_eq_true, Bool.and_eq_true, decide_eq_true_eq]
theorem sameK_iff {c d : Ch} : sameK c d = true ↔ c.nm = d.nm ∧ c.h = d.h ∧ c.a = d.a := by unfold sameK; rw [decide_eq_true_eq]
theorem good_snoc {l : List Ch} {c : Ch} : goodG (l ++ [c]) = true ↔ goodG l = true ∧ gstep l c := by
  rw [goodG_iff, goodG_iff]
  unfold gstep
  simp only [List.filter_append, List.length_append]
  have s1 : ∀ d : Ch, ([c].filter (fun x => decide (x = d))).length = if c = d then 1 else 0 := fun d => by by_cases h : c = d <;> simp [h]
  have s2 : ∀ d : Ch, ([c].filter (fun x => sameK x d)).length = if sameK c d = true then 1 else 0 := fun d => by cases h : sameK c d <;> simp [h]
  have cc : sameK c c = true := sameK_iff.mpr ⟨rfl, rfl, rfl⟩
  constructor
  · intro h
    refine ⟨fun d hd => ?_, fun hm => ?_, ?_⟩
    · have := h d (by simp [hd])
      omega
    · have := (h c (by simp)).1
      rw [s1, if_pos rfl] at this
      have := mem_two hm
      omega
    · have := (h c (by simp)).2
      rw [s2, if_pos cc] at this
      omega
  · rintro ⟨h1, h2, h3⟩ d hd
    rw [s1, s2]
    rcases List.mem_append.mp hd with y | y
    · have q := h1 d y
      refine ⟨?_, ?_⟩
      · rw [if_neg (fun z => h2 (by rw [z]; exact y))]; omega
      · cases hk : sameK c d with
        | false => simp; exact q.2
        | true =>
          have e : l.filter (fun x => sameK x d) = l.filter (fun x => sameK x c) := by
            refine List.filter_congr fun x _ => ?_
            have k := sameK_iff.mp hk
            unfold sameK
            rw [k.1, k.2.1, k.2.2]
          rw [e]
          simp
          omega
    · rw [List.mem_singleton.mp y, if_pos rfl, if_pos cc]
      have e : l.filter (fun x => decide (x = c)) = [] := List.filter_eq_nil_iff.mpr fun x hx z => h2 (by
        have : x = c := by simpa using z
        rw [← this]; exact hx)
      rw [e]
      refine ⟨by simp, by omega⟩
theorem good_take {cs : List Ch} (h : goodG cs = true) (i : Nat) : goodG (cs.take i) = true := by
  rw [goodG_iff] at h ⊢
  intro c hc
  have q := h c (List.mem_of_mem_take hc)
  have s1 : ((cs.take i).filter (fun d => decide (d = c))).length ≤ (cs.filter (fun d => decide (d = c))).length := ((List.take_sublist i cs).filter _).length_le
  have s2 : ((cs.take i).filter (fun d => sameK d c)).length ≤ (cs.filter (fun d => sameK d c)).length := ((List.take_sublist i cs).filter _).length_le
  omega
theorem okCh_iff {s : Int} {c : Ch} : okCh s c = true ↔ isName c.nm = true ∧ 0 ≤ c.h ∧ c.h < s ∧ 0 ≤ c.t ∧ c.t < s ∧ 0 ≤ c.a ∧ c.a ≤ 7 ∧ 0 ≤ c.r ∧ c.r ≤ 7 := by unfold okCh; rw [Bool.and_eq_true, decide_eq_true_eq]
theorem isBook_iff {s f : Int} {cs : List Ch} : isBook s f cs = true ↔ (1 ≤ s ∧ s ≤ 600 ∧ 0 ≤ f ∧ f < s) ∧ ∀ c ∈ cs, okCh s c = true ∧ (cs.filter (fun d => decide (d = c))).length ≤ 1 ∧ (cs.filter (fun d => sameK d c)).length ≤ 4 := by
  unfold isBook headOk
  rw [Bool.and_eq_true, Bool.and_eq_true, decide_eq_true_eq, goodG_iff, List.all_eq_true]
  constructor
  · rintro ⟨h, h1, h2⟩
    exact ⟨h, fun c hc => ⟨h1 c hc, h2 c hc⟩⟩
  · rintro ⟨h, h1⟩
    exact ⟨h, fun c hc => (h1 c hc).1, fun c hc => (h1 c hc).2⟩
theorem filt_more {cs : List Ch} {i : Nat} {d : Ch} (h : cs[i]? = some d) (p : Ch → Bool) : ((cs.take (i + 1)).filter p).length = ((cs.take i).filter p).length + if p d = true then 1 else 0 := by
  rw [_root_.Fr.take_more h, List.filter_append, List.length_append]
  cases e : p d <;> simp [e]
/-- handed in, one way or another -/
def hand (cs : List Ch) (how : Int) : PyData := if how = 0 then .list (cs.map eChL) else if how = 1 then .list (cs.map eCh) else if how = 2 then .tuple (cs.map eChL) else .tuple (cs.map eCh)
/-! no list within: nothing need stand still -/
mutual
def noL : PyData → Bool
  | .none | .int _ | .str _ | .bool _ => true
  | .dict _ | .list _ => false
  | .tuple xs => noLs xs
def noLs : List PyData → Bool
  | [] => true
  | x :: xs => noL x && noLs xs
end
section
variable {K : PySem.W.Frag} {Z Z' : List Addr} {H : Hp}
mutual
theorem dt_noZ : ∀ (d : PyData) (v : V), noL d = true → Dt K Z H v d → Dt K Z' H v d
  | .none, _, _, h => by cases h; exact .non
  | .bool _, _, _, h => by cases h; exact .bl _
  | .int _, _, _, h => by cases h; exact .int _
  | .str _, _, _, h => by cases h; exact .str _
  | .list ds, _, n, h => by simp [noL] at n
  | .tuple ds, _, n, h => by
    cases h with
    | tup t a => exact .tup t (dts_noZ ds _ (by simpa [noL] using n) a)
  | .dict _, _, _, h => by cases h
theorem dts_noZ : ∀ (ds : List PyData) (vs : List V), noLs ds = true → Dts K Z H vs ds → Dts K Z' H vs ds
  | [], _, _, h => by cases h; exact .nil
  | d :: ds, _, n, h => by
    simp only [noLs, Bool.and_eq_true] at n
    cases h with
    | cons h1 h2 => exact .cons (dt_noZ d _ n.1 h1) (dts_noZ ds _ n.2 h2)
end
end
theorem noLs_map {α : Type} (f : α → PyData) (h : ∀ x, noL (f x) = true) : ∀ l : List α, noLs (l.map f) = true
  | [] => rfl
  | x :: r => by simp [noLs, h x, noLs_map f h r]


def spHand (K : PySem.W.Frag) : Sp := fun vs H Q _ => ∃ (Z : List Addr) (cs : List Ch) (how : Int) (v : V), vs = [v, .int how] ∧ Dt K Z H v (.list (cs.map eCh)) ∧ Sml 200 cs ∧ ∀ x H' Zr, Kp [] H H' → (∀ z ∈ Zr, H z = none) → (∀ z ∈ Zr, ∃ o, H' z = some o) → Dt K Zr H' x (hand cs how) → Q x H'
def spSpoil (K : PySem.W.Frag) : Sp := fun vs H Q _ => ∃ (Zr : List Addr) (cs : List Ch) (how : Int) (x : V), vs = [x, .int how] ∧ Dt K Zr H x (hand cs how) ∧ (0 ≤ how ∧ Sml 200 cs) ∧ ∀ H', Kp Zr H H' → Q .non H'

/-! the dict of the options -/
abbrev keyOf (c : Ch) : List Key := [.inr c.nm, .inl c.h, .inl c.a]
abbrev ePr (p : Int × Int) : PyData := .tuple [.int p.1, .int p.2]
def optsK (cs : List Ch) (k : List Key) : List (Int × Int) := (cs.filter (fun c => decide (keyOf c = k))).map fun c => (c.t, c.r)
theorem key_same {c d : Ch} : keyOf c = keyOf d ↔ sameK c d = true := by
  rw [sameK_iff]
  simp [keyOf]
theorem optsK_snoc (cs : List Ch) (c : Ch) (k : List Key) : optsK (cs ++ [c]) k = optsK cs k ++ if keyOf c = k then [(c.t, c.r)] else [] := by
  unfold optsK
  rw [List.filter_append, List.map_append]
  by_cases h : keyOf c = k <;> simp [h]
theorem optsK_len (cs : List Ch) (c : Ch) : (optsK cs (keyOf c)).length = (cs.filter (fun d => sameK d c)).length := by
  unfold optsK
  rw [List.length_map]
  congr 1
  refine List.filter_congr fun x _ => ?_
  rw [Bool.eq_iff_iff, decide_eq_true_iff]
  exact key_same
theorem optsK_mem {cs : List Ch} {c : Ch} : (c.t, c.r) ∈ optsK cs (keyOf c) ↔ c ∈ cs := by
  unfold optsK
  rw [List.mem_map]
  constructor
  · rintro ⟨d, hd, e⟩
    obtain ⟨h1, h2⟩ := List.mem_filter.mp hd
    have h3 := sameK_iff.mp (key_same.mp (by simpa using h2))
    have e1 : d.t = c.t := congrArg Prod.fst e
    have e2 : d.r = c.r := congrArg Prod.snd e
    cases c; cases d
    simp only at h3 e1 e2
    obtain ⟨rfl, rfl, rfl⟩ := h3
    subst e1 e2
    exact h1
  · intro h
    exact ⟨c, List.mem_filter.mpr ⟨h, by simp⟩, rfl⟩
theorem valD_cons {κ : Type} [DecidableEq κ] (p : κ × PyData) (s : List (κ × PyData)) (k : κ) : valD (p :: s) k = if p.1 = k then some p.2 else valD s k := by
  unfold valD
  rw [List.find?_cons]
  by_cases h : p.1 = k <;> simp [h]
theorem valD_map {κ : Type} [DecidableEq κ] (k k' : κ) (d : PyData) : ∀ s : List (κ × PyData), valD (s.map fun kv => if kv.1 = k then (kv.1, d) else kv) k' = if k = k' then (if (s.any fun kv => decide (kv.1 = k)) = true then some d else none) else valD s k'
  | [] => by simp [valD]
  | p :: s => by
    rw [List.map_cons, valD_cons, valD_cons, valD_map k k' d s, List.any_cons]
    by_cases h1 : p.1 = k
    · rw [if_pos h1]
      by_cases h2 : k = k'
      · simp [h1, h2]
      · have : ¬ p.1 = k' := fun z => h2 (h1.symm.trans z)
        simp [h2, this]
    · rw [if_neg h1]
      by_cases h2 : k = k'
      · have : ¬ p.1 = k' := fun z => h1 (z.trans h2.symm)
        have e1 : decide (p.1 = k) = false := decide_eq_false h1
        rw [if_neg this, if_pos h2, if_pos h2, e1, Bool.false_or]
      · simp [h2]
theorem valD_none {κ : Type} [DecidableEq κ] {k : κ} : ∀ {s : List (κ × PyData)}, (s.any fun kv => decide (kv.1 = k)) = false → valD s k = none
  | [], _ => rfl
  | p :: s, h => by
    rw [List.any_cons, Bool.or_eq_false_iff] at h
    rw [valD_cons, if_neg (by simpa using h.1)]
    exact valD_none h.2
theorem valD_app {κ : Type} [DecidableEq κ] (k k' : κ) (d : PyData) : ∀ s : List (κ × PyData), valD (s ++ [(k, d)]) k' = (valD s k').or (if k = k' then some d else none)
  | [] => by simp [valD]
  | p :: s => by
    rw [List.cons_append, valD_cons, valD_cons, valD_app k k' d s]
    by_cases h : p.1 = k' <;> simp [h]
theorem valD_put {κ : Type} [DecidableEq κ] (s : List (κ × PyData)) (k k' : κ) (d : PyData) : valD (putD s k d) k' = if k = k' then some d else valD s k' := by
  unfold putD
  by_cases h : (s.any fun kv => decide (kv.1 = k)) = true
  · rw [if_pos h, valD_map, if_pos h]
  · rw [if_neg h, valD_app]
    have h : (s.any fun kv => decide (kv.1 = k)) = false := (Bool.not_eq_true _).mp h
    by_cases e : k = k'
    · subst e
      rw [valD_none h]; simp
    · simp [e]
theorem mem_put {κ : Type} [DecidableEq κ] {s : List (κ × PyData)} {k : κ} {d : PyData} {x : κ × PyData} (h : x ∈ putD s k d) : x = (k, d) ∨ (x ∈ s ∧ x.1 ≠ k) := by
  unfold putD at h
  split at h
  · obtain ⟨y, hy, e⟩ := List.mem_map.mp h
    by_cases z : y.1 = k
    · rw [if_pos z] at e; rw [← e, z]; exact .inl rfl
    · rw [if_neg z] at e; rw [← e]; exact .inr ⟨hy, z⟩
  · rename_i hn
    rcases List.mem_append.mp h with y | y
    · refine .inr ⟨y, fun z => hn ?_⟩
      exact List.any_eq_true.mpr ⟨x, y, by simp [z]⟩
    · exact .inl (List.mem_singleton.mp y)
theorem len_put {κ : Type} [DecidableEq κ] (s : List (κ × PyData)) (k : κ) (d : PyData) : (putD s k d).length ≤ s.length + 1 := by
  unfold putD
  split
  · rw [List.length_map]; omega
  · rw [List.length_append]; simp
theorem valD_mem {κ : Type} [DecidableEq κ] {k : κ} {d : PyData} : ∀ {s : List (κ × PyData)}, valD s k = some d → (k, d) ∈ s
  | [], h => by cases h
  | p :: s, h => by
    rw [valD_cons] at h
    split at h
    · rename_i e
      have e2 := Option.some.inj h
      rw [← e, ← e2]; exact List.mem_cons_self
    · exact List.mem_cons_of_mem _ (valD_mem h)
structure GrpS (cs : List Ch) (s : List (List Key × PyData)) : Prop where
  v : ∀ k, valD s k = if optsK cs k = [] then none else some (.tuple ((optsK cs k).map ePr))
  m : ∀ x ∈ s, x.2 = .tuple ((optsK cs x.1).map ePr) ∧ optsK cs x.1 ≠ []
  l : s.length ≤ cs.length
theorem GrpS.nil : GrpS [] [] := ⟨fun k => rfl, fun x hx => (by cases hx), Nat.le_refl _⟩
theorem GrpS.get {cs : List Ch} {s : List (List Key × PyData)} (g : GrpS cs s) (k : List Key) : (valD s k).getD (.tuple []) = .tuple ((optsK cs k).map ePr) := by
  rw [g.v k]
  split
  · rename_i h; rw [h]; rfl
  · rfl
theorem GrpS.snoc {cs : List Ch} {s : List (List Key × PyData)} (g : GrpS cs s) (c : Ch) : GrpS (cs ++ [c]) (putD s (keyOf c) (.tuple ((optsK cs (keyOf c)).map ePr ++ [ePr (c.t, c.r)]))) := by
  refine ⟨fun k => ?_, fun x hx => ?_, ?_⟩
  · rw [valD_put, optsK_snoc]
    by_cases h : keyOf c = k
    · subst h
      rw [if_pos rfl, if_pos rfl, if_neg (by simp), List.map_append]
      rfl
    · rw [if_neg h, if_neg h, List.append_nil]; exact g.v k
  · rcases mem_put hx with rfl | ⟨h1, h2⟩
    · rw [optsK_snoc, if_pos rfl, List.map_append]
      exact ⟨rfl, by simp⟩
    · rw [optsK_snoc, if_neg (fun z => h2 z.symm), List.append_nil]
      exact g.m x h1
  · have := len_put s (keyOf c) (.tuple ((optsK cs (keyOf c)).map ePr ++ [ePr (c.t, c.r)]))
    have := g.l
    rw [List.length_append, List.length_singleton]
    omega
def spChk (K : PySem.W.Frag) (CB : Addr) : Sp := fun vs H Q E => ∃ (Z : List Addr) (c : Ch) (s : Int) (v : V), vs = [v, .int s] ∧ (∀ z ∈ Z, ∃ o, H z = some o) ∧ Dt K Z H v (eCh c) ∧ c.nm.length ≤ 300 ∧ (okCh s c = false → ∀ H', Kp [] H H' → E (.ref CB) none H') ∧ (okCh s c = true → ∀ H', Kp [] H H' → Q .non H')
def spGrp (K : PySem.W.Frag) (CB : Addr) : Sp := fun vs H Q E => ∃ (Z : List Addr) (cs : List Ch) (v : V), vs = [v] ∧ (∀ z ∈ Z, ∃ o, H z = some o) ∧ Dt K Z H v (.tuple (cs.map eCh)) ∧ Sml 200 cs ∧ (goodG cs = false → ∀ H', Kp [] H H' → E (.ref CB) none H') ∧
  (goodG cs = true → ∀ o H' s, Kp [] H H' → H o = none → DDt K [] H' o s → GrpS cs s → Q (.ref o) H')
theorem dr_noZ {K : PySem.W.Frag} {Z Z' : List Addr} {H : Hp} {r : List (List Key × V)} {s : List (List Key × PyData)} (h : DR K Z H r s) (n : ∀ x ∈ s, noL x.2 = true) : DR K Z' H r s := by
  induction h with
  | nil => exact .nil
  | cons a _ ih => exact .cons (dt_noZ _ _ (n _ List.mem_cons_self) a) (ih fun x hx => n x (List.mem_cons_of_mem _ hx))
theorem Hs_newD {K : PySem.W.Frag} {B : Bs} {Z : List Addr} {H : Hp} {L : List Ent} {M : List (List V × List PyData)} {F : Ent → List Ent} {o : Addr} {s : List (List Key × PyData)} (h : Hs K B Z H L M) (l : Loc L (.dd K o s true) F) (nw : o ∉ B.W) : B.H0 o = none := by
  rcases h.wr _ l.mem rfl o (by simp [Ent.dd]) with z | z
  · exact absurd z nw
  · exact z
theorem noBs_pr (l : List (Int × Int)) : noBs (l.map ePr) = true := noBs_map ePr (fun _ => rfl) l
theorem grp_noL {cs : List Ch} {sd : List (List Key × PyData)} (g : GrpS cs sd) : ∀ x ∈ sd, noL x.2 = true := fun x hx => by
  rw [(g.m x hx).1]
  exact noLs_map ePr (fun _ => rfl) _
theorem good_le {l : List Ch} (h : goodG l = true) (c : Ch) : (l.filter (fun d => sameK d c)).length ≤ 4 := by
  cases e : l.filter (fun d => sameK d c) with
  | nil => simp
  | cons d r =>
    have hd : d ∈ l.filter (fun d => sameK d c) := by rw [e]; exact List.mem_cons_self
    obtain ⟨h1, h2⟩ := List.mem_filter.mp hd
    have k := sameK_iff.mp h2
    have q := (goodG_iff.mp h d h1).2
    have e2 : l.filter (fun x => sameK x d) = l.filter (fun x => sameK x c) := by
      refine List.filter_congr fun x _ => ?_
      unfold sameK
      rw [k.1, k.2.1, k.2.2]
    rw [e2, e] at q
    exact q

section
variable {P : Program} {w : World} {K : PySem.W.Frag} {mg : Str → Option Value} {base : Heap} {CPlainBook CCodeBook CStock COddsError CBadShare CBadText CBadBook CBadMove CBadProgram CBadPlan CUnfit CTooLarge CBadEdit CCODE_FORMS CIDLE : Addr}
theorem ok_check_choice (T : Txt P w K mg CPlainBook CCodeBook CStock COddsError CBadShare CBadText CBadBook CBadMove CBadProgram CBadPlan CUnfit CTooLarge CBadEdit CCODE_FORMS CIDLE) : Fc P w K mg base (L2.CX P w) 2 "check_choice" ["choice", "states"] (spChk K CBadBook) := by
  refine fc_ofX T.d_check_choice sc_check_choice (fun vs H Q E h => by obtain ⟨Z, c, s, v, rfl, _⟩ := h; rfl) (fun _ _ _ _ _ _ us hl => match us, hl with | [_, _], _ => rfl) fun f cdv A outer s H vs Q E hr h => ⟨_, (pss_cons (ps_asg (pv 0) (pgTK K 5 (by rfl) (pgs_cons (pg_name (i := 2) sc_check_choice.nd rfl (Or.inl rfl)) (pgs_cons (pg_name (i := 3) sc_check_choice.nd rfl (Or.inl rfl)) (pgs_cons (pg_name (i := 4) sc_check_choice.nd rfl (Or.inl rfl)) (pgs_cons (pg_name (i := 5) sc_check_choice.nd rfl (Or.inl rfl)) (pgs_cons (pg_name (i := 6) sc_check_choice.nd rfl (Or.inl rfl)) pgs_nil)))))))
 (pss_cons (ps_if (pt_not (pt_val (pe_fc (ok_is_name T) pass0 (hr.mono (by omega)) (pa_cons (pv 2) pa_nil))))
 (pss_one (ps_raise rfl (takes_of rfl rfl rfl rfl) (pmk_own PySem.F.excBase_ValueError T.x_BadBook T.e_BadBook.g T.e_BadBook.k (raises_own T.e_BadBook.b T.e_BadBook.t) rfl)))
 pss_nil)
 (pss_cons (ps_if (PW.pt (pw_or (pt_not (pt_chain op_le op_lt pe_int (pv 3) (pv 1))) (pw_or1 (pt_not (pt_chain op_le op_lt pe_int (pv 5) (pv 1))))))
 (pss_one (ps_raise rfl (takes_of rfl rfl rfl rfl) (pmk_own PySem.F.excBase_ValueError T.x_BadBook T.e_BadBook.g T.e_BadBook.k (raises_own T.e_BadBook.b T.e_BadBook.t) rfl)))
 pss_nil)
 (pss_one (ps_if (PW.pt (pw_or (pt_not (pt_chain op_le op_lt pe_int (pv 4) (C8.pe_gc (v := .int 8) rfl T.g_VALUE_LIMIT))) (pw_or1 (pt_not (pt_chain op_le op_lt pe_int (pv 6) (C8.pe_gc (v := .int 8) rfl T.g_VALUE_LIMIT))))))
 (pss_one (ps_raise rfl (takes_of rfl rfl rfl rfl) (pmk_own PySem.F.excBase_ValueError T.x_BadBook T.e_BadBook.g T.e_BadBook.k (raises_own T.e_BadBook.b T.e_BadBook.t) rfl)))
 pss_nil))))), ?_⟩
  obtain ⟨Z, c, st, v, rfl, zl, hv, hl, hB, hG⟩ := h
  have hs : Hs K ⟨H, [], Z⟩ Z H [] [([v], [eCh c])] := (Hs.start (fun _ z => by cases z) zl).fact1 hv
  have nb : ¬ (isName c.nm = true ∧ 0 ≤ c.h ∧ c.h < st ∧ 0 ≤ c.t ∧ c.t < st ∧ 0 ≤ c.a ∧ c.a ≤ 7 ∧ 0 ≤ c.r ∧ c.r ≤ 7) → okCh st c = false := fun h => by rw [← Bool.not_eq_true, okCh_iff]; exact h
  tm_at "go"
  · exact hG (okCh_iff.mpr ⟨by assumption, by omega, by omega, by omega, by omega, by omega, by omega, by omega, by omega⟩) _ (show Hs K ⟨H, [], Z⟩ _ _ _ _ from by assumption).kp
  all_goals refine hB (nb fun z => ?_) _ (show Hs K ⟨H, [], Z⟩ _ _ _ _ from by assumption).kp
  all_goals first
    | omega
    | (have y := z.1; rw [show isName c.nm = false from by assumption] at y; cases y)
theorem ok_grouped_options (T : Txt P w K mg CPlainBook CCodeBook CStock COddsError CBadShare CBadText CBadBook CBadMove CBadProgram CBadPlan CUnfit CTooLarge CBadEdit CCODE_FORMS CIDLE) : Fc P w K mg base (L2.CX P w) 1 "grouped_options" ["choices"] (spGrp K CBadBook) := by
  refine fc_ofX T.d_grouped_options sc_grouped_options (fun vs H Q E h => by obtain ⟨Z, cs, v, rfl, _⟩ := h; rfl) (fun _ _ _ _ _ _ us hl => match us, hl with | [_], _ => rfl) fun f cdv A outer s H vs Q E hr h => ⟨_, (pss_cons (ps_set (i := 1) sc_grouped_options.nd rfl (Or.inl rfl) pe_dnewT)
 (pss_cons (ps_for (passes_of rfl) rfl (piTK K (pv 0)) (pgTK K 5 (by rfl) (pgs_cons (pg_name (i := 2) sc_grouped_options.nd rfl (Or.inl rfl)) (pgs_cons (pg_name (i := 3) sc_grouped_options.nd rfl (Or.inl rfl)) (pgs_cons (pg_name (i := 4) sc_grouped_options.nd rfl (Or.inl rfl)) (pgs_cons (pg_name (i := 5) sc_grouped_options.nd rfl (Or.inl rfl)) (pgs_cons (pg_name (i := 6) sc_grouped_options.nd rfl (Or.inl rfl)) pgs_nil))))))
 (pss_cons (ps_set (i := 7) sc_grouped_options.nd rfl (Or.inl rfl) (pe_tup (pa_cons (pv 2) (pa_cons (pv 3) (pa_cons (pv 4) pa_nil)))))
 (pss_cons (ps_set (i := 8) sc_grouped_options.nd rfl (Or.inl rfl) (pe_dget2 (hu_of hr) (pv 1) (pv 7) (pe_tup pa_nil) ⟨rfl, rfl, rfl, rfl⟩))
 (pss_cons (ps_if (pt_cmpR (inAK K hr.units) (pe_tup (pa_cons (pv 5) (pa_cons (pv 6) pa_nil))) (pv 8) rfl)
 (pss_one (ps_raise rfl (takes_of rfl rfl rfl rfl) (pmk_own PySem.F.excBase_ValueError T.x_BadBook T.e_BadBook.g T.e_BadBook.k (raises_own T.e_BadBook.b T.e_BadBook.t) rfl)))
 pss_nil)
 (pss_cons (ps_if (pt_cmpR op_eq (pe_callB (lenK K) (by rfl) T.n_len b_len (pa_cons (pv 8) pa_nil)) (C8.pe_gc (v := .int 4) rfl T.g_MOST_OPTIONS) (nomark _))
 (pss_one (ps_raise rfl (takes_of rfl rfl rfl rfl) (pmk_own PySem.F.excBase_ValueError T.x_BadBook T.e_BadBook.g T.e_BadBook.k (raises_own T.e_BadBook.b T.e_BadBook.t) rfl)))
 pss_nil)
 (PSs.nox (pss_one (ps_dput (hu_of hr) (pv 1) (pv 7) (pe_op (catAK K) (pv 8) (pe_tup (pa_cons (pe_tup (pa_cons (pv 5) (pa_cons (pv 6) pa_nil))) pa_nil))) rfl))))))))
 (PSs.nox (pss_one (ps_ret (pv 1)))))), ?_⟩
  obtain ⟨Z, cs, v, rfl, zl, hv, pre, hB, hG⟩ := h
  have hs : Hs K ⟨H, [], Z⟩ Z H [] [([v], [.tuple (cs.map eCh)])] := (Hs.start (fun _ z => by cases z) zl).fact1 hv
  have lc : (cs.map eCh).length = cs.length := List.length_map _
  have hcl := pre.1
  have bad : ∀ (i : Nat) (c : Ch), cs[i]? = some c → ¬ gstep (cs.take i) c → goodG cs = false := fun i c hc h => by
    rw [← Bool.not_eq_true]
    intro z
    have z := good_take z (i + 1)
    rw [_root_.Fr.take_more hc, good_snoc] at z
    exact h z.2
  tm_at "go"
  refine l_dt (cs.map eCh) (fun i σ H' => ∃ (o : Addr) (s : List (List Key × PyData)) (u2 u3 u4 u5 u6 u7 u8 : Option V), σ = [some v, some (.ref o), u2, u3, u4, u5, u6, u7, u8] ∧ GrpS (cs.take i) s ∧ goodG (cs.take i) = true ∧ Hs K ⟨H, [], Z⟩ Z H' [.dd K o s true] [([v], [.tuple (cs.map eCh)])]) ?_ ?_ ?_ ?_
  · exact ⟨_, _, none, none, none, none, none, none, none, rfl, GrpS.nil, rfl, by assumption⟩
  · rintro i σ H' hi ⟨o, s, u2, u3, u4, u5, u6, u7, u8, rfl, _, _, hs2⟩
    exact ⟨Z, by tm_at "dt"⟩
  · rintro i d x σ H' hd hx ⟨o, s, u2, u3, u4, u5, u6, u7, u8, rfl, gs, gg, hs2⟩
    obtain ⟨c, hc, rfl⟩ := at_map hd
    have hi : i < cs.length := (List.getElem?_eq_some_iff.mp hc).1
    have hsl := gs.l
    have htl : (cs.take i).length ≤ i := by rw [List.length_take]; omega
    have hs3 := hs2.fact1 (hx Z (by tm_at "dt"))
    tm_at "run"
    rename_i hq9
    refine h_dgB (s := s) (dz := .tuple []) (w := true) (keyOf c) hq9 .here (show Dt K Z _ _ (.tuple [.str c.nm, .int c.h, .int c.a]) from by tm_at "dt") (by tm_at "dt") fun y hy => ?_
    rw [gs.get] at hy
    have hk := optsK_len (cs.take i) c
    have hl : ((cs.take i).filter (fun d => sameK d c)).length ≤ i := Nat.le_trans (List.length_filter_le _ _) htl
    have lm : ((optsK (cs.take i) (keyOf c)).map ePr).length = ((cs.take i).filter (fun d => sameK d c)).length := by rw [List.length_map, hk]
    have ai := any_iff (xs := (optsK (cs.take i) (keyOf c)).map ePr) (d := ePr (c.t, c.r)) (noBs_pr _) rfl
    have mi : ePr (c.t, c.r) ∈ (optsK (cs.take i) (keyOf c)).map ePr ↔ c ∈ cs.take i := by
      rw [List.mem_map]
      constructor
      · rintro ⟨⟨a, b⟩, ha, e⟩
        simp only [ePr, PyData.tuple.injEq, List.cons.injEq, PyData.int.injEq, and_true] at e
        rw [e.1, e.2] at ha
        exact optsK_mem.mp ha
      · exact fun h => ⟨_, optsK_mem.mpr h, rfl⟩
    tm_at "run"
    · rename_i hq8 hb
      exact hB (bad i c hc fun z => z.1 (mi.mp (ai.mp hb))) _ hq8.kp
    · rename_i hq8 _ hc4
      exact hB (bad i c hc fun z => by have := z.2; omega) _ hq8.kp
    · rename_i hq8
      have hb : (((optsK (cs.take i) (keyOf c)).map ePr).any fun y => PyData.eqv y (ePr (c.t, c.r))) = false := by assumption
      refine h_dpA (s := s) (keyOf c) hq8 .here (show Dt K Z _ _ (.tuple [.str c.nm, .int c.h, .int c.a]) from by tm_at "dt") (by tm_at "dt") (by omega) fun H6 hq6 => ?_
      refine ⟨o, _, _, _, _, _, _, _, _, rfl, ?_, ?_, by tm_at "wk"⟩
      · rw [_root_.Fr.take_more hc]; exact gs.snoc c
      · rw [_root_.Fr.take_more hc, good_snoc]
        exact ⟨gg, (show c ∉ cs.take i ∧ _ < 4 from ⟨fun z => (by rw [ai.mpr (mi.mpr z)] at hb; cases hb), by have := good_le gg c; omega⟩)⟩
  · rintro σ H' ⟨o, s, u2, u3, u4, u5, u6, u7, u8, rfl, gs, gg, hs2⟩
    rw [lc, List.take_length] at gs gg
    tm_at "run"
    obtain ⟨r, e, dr⟩ := (hs2.get .here : DDt K Z _ o s)
    exact hG gg o _ s hs2.kp (Hs_newD hs2 .here (by simp)) ⟨r, e, dr_noZ dr (grp_noL gs)⟩ gs

end


/-! my own steps: rows of tactics, tried from above -/

/-! steps over Hs -/









/-! PlainBook as an object -/
def pbF (s f : Int) (c o : V) : List (Str × V) := [("states", .int s), ("first", .int f), ("choices", c), ("_options", o)]
theorem lk_hit {k : Str} {v : V} {r : List (Str × V)} : List.lookup k ((k, v) :: r) = some v := by
  simp only [List.lookup, beq_self_eq_true]
theorem lk_miss {k g : Str} {v : V} {r : List (Str × V)} (h : k ≠ g) : List.lookup k ((g, v) :: r) = List.lookup k r := by
  have : (k == g) = false := by simpa using h
  simp only [List.lookup, this]
theorem ne12 : (Str.ofString "first") ≠ (Str.ofString "states") := by decide +kernel
theorem ne13 : (Str.ofString "choices") ≠ (Str.ofString "states") := by decide +kernel
theorem ne14 : (Str.ofString "_options") ≠ (Str.ofString "states") := by decide +kernel
theorem ne23 : (Str.ofString "choices") ≠ (Str.ofString "first") := by decide +kernel
theorem ne24 : (Str.ofString "_options") ≠ (Str.ofString "first") := by decide +kernel
theorem ne34 : (Str.ofString "_options") ≠ (Str.ofString "choices") := by decide +kernel
section
variable {s f : Int} {c o : V}
theorem pb_l1 : (pbF s f c o).lookup ("states" : Str) = some (.int s) := lk_hit
theorem pb_l2 : (pbF s f c o).lookup ("first" : Str) = some (.int f) := (lk_miss ne12).trans lk_hit
theorem pb_l3 : (pbF s f c o).lookup ("choices" : Str) = some c := (lk_miss ne13).trans ((lk_miss ne23).trans lk_hit)
theorem pb_l4 : (pbF s f c o).lookup ("_options" : Str) = some o := (lk_miss ne14).trans ((lk_miss ne24).trans ((lk_miss ne34).trans lk_hit))
theorem pb3_l3 : ([("states", .int s), ("first", .int f), ("choices", c)] : List (Str × V)).lookup ("choices" : Str) = some c := (lk_miss ne13).trans ((lk_miss ne23).trans lk_hit)
theorem pb_no {m : Str} (h1 : m ≠ "states") (h2 : m ≠ "first") (h3 : m ≠ "choices") (h4 : m ≠ "_options") : (pbF s f c o).lookup m = none := (lk_miss h1).trans ((lk_miss h2).trans ((lk_miss h3).trans ((lk_miss h4).trans rfl)))
end
theorem putF_miss {k g : Str} {v w : V} {r : List (Str × V)} (h : k ≠ g) : putF k v ((g, w) :: r) = (g, w) :: putF k v r := by
  show (if g = k then _ else (g, w) :: putF k v r) = _
  rw [if_neg (fun z => h z.symm)]
theorem put2 {s f : Int} : putF "first" (.int f) (putF "states" (.int s) []) = ([("states", .int s), ("first", .int f)] : List (Str × V)) := (putF_miss ne12).trans rfl
theorem put3 {s f : Int} {c : V} : putF "choices" c [("states", .int s), ("first", .int f)] = ([("states", .int s), ("first", .int f), ("choices", c)] : List (Str × V)) := by
  exact (putF_miss ne13).trans (congrArg _ ((putF_miss ne23).trans rfl))
theorem put4 {s f : Int} {c o : V} : putF "_options" o [("states", .int s), ("first", .int f), ("choices", c)] = pbF s f c o := by
  exact (putF_miss ne14).trans (congrArg _ ((putF_miss ne24).trans (congrArg _ ((putF_miss ne34).trans rfl))))
def PB (K : PySem.W.Frag) (C : Addr) (H : Hp) (p o : Addr) (s f : Int) (cs : List Ch) : Prop := ∃ dx c sd, H p = some (.ins C dx (pbF s f c (.ref o))) ∧ Dt K [] H c (.tuple (cs.map eCh)) ∧ DDt K [] H o sd ∧ GrpS cs sd
theorem ddt_im {K : PySem.W.Frag} {Z : List Addr} {H H' : Hp} {o : Addr} {s : List (List Key × PyData)} (h : DDt K Z H o s) (e : ∀ u, H o = some u → H' o = some u) (i : Im Z H H') : DDt K Z H' o s := by
  obtain ⟨r, h, d⟩ := h
  exact ⟨r, e _ h, d.im i⟩
theorem PB.kp0 {K : PySem.W.Frag} {C p o : Addr} {H H' : Hp} {s f : Int} {cs : List Ch} (k : Kp [] H H') (h : PB K C H p o s f cs) : PB K C H' p o s f cs := by
  obtain ⟨dx, c, sd, h1, h2, h3, h4⟩ := h
  exact ⟨dx, c, sd, k.get0 h1, h2.im k.im, ddt_im h3 (fun u e => k.get0 e) k.im, h4⟩
def spInitPB (K : PySem.W.Frag) (C CB : Addr) : Sp := fun vs H Q E => ∃ (p dx : Addr) (s f : Int) (Z : List Addr) (v : V) (cs : List Ch) (how : Int), vs = [.ref p, .int s, .int f, v] ∧ H p = some (.ins C dx []) ∧ p ∉ Z ∧ (∀ z ∈ Z, ∃ o, H z = some o) ∧ Dt K Z H v (hand cs how) ∧ Sml 200 cs ∧
  (isBook s f cs = false → ∀ H', Kp [p] H H' → E (.ref CB) none H') ∧ (isBook s f cs = true → ∀ H' o, Kp [p] H H' → H o = none → PB K C H' p o s f cs → Q .non H')
theorem k_pb {K : PySem.W.Frag} {C CB : Addr} {s f : Int} {v : V} {Z : List Addr} {cs : List Ch} {how : Int} {H : Hp} {Q : VK} {E : XK} (hz : ∀ z ∈ Z, ∃ o, H z = some o) (q : Dt K Z H v (hand cs how)) (pre : Sml 200 cs)
    (bad : isBook s f cs = false → ∀ H', Kp [] H H' → E (.ref CB) none H') (good : isBook s f cs = true → ∀ p o H', H p = none → H o = none → Kp [] H H' → PB K C H' p o s f cs → Q (.ref p) H') : NewI C (spInitPB K C CB) ([.int s, .int f, v] ++ []) H Q E := by
  intro x dx nx ndx ne
  have k1 : Kp [] H (upd (upd H dx (.own x)) x (.ins C dx [])) := Kp.trans (Kp.new ndx) (Kp.new (by rw [upd_ne ne.symm]; exact nx))
  refine ⟨x, dx, s, f, Z, v, cs, how, rfl, upd_same, fun z => ?_, fun z h => ?_, q.im k1.im, pre, fun b H' k => bad b _ (Kp.inst nx ndx k), fun g H' o k no pb => ⟨rfl, good g x o H' nx (k1.free no) (Kp.inst nx ndx k) pb⟩⟩
  · obtain ⟨u, e⟩ := hz x z
    rw [e] at nx; cases nx
  · obtain ⟨u, e⟩ := hz z h
    exact ⟨u, k1.get0 e⟩
def NcPB (P : Program) (w : World) (K : PySem.W.Frag) (mg : Str → Option Value) (base : Heap) (k : Nat) (C CB : Addr) : Prop :=
  ∃ f fd, Mk K C f ∧ FnOk P w K mg base (L2.CX P w) k f fd ["self", "states", "first", "choices"] (spInitPB K C CB) ∧ mg "PlainBook" = some (.ref C) ∧ Binds K fd ["self", "states", "first", "choices"] []
section
variable {X : Cx} {k : Nat} {C CB : Addr} {p pos : Pos} {e : Expr} {es : List Expr} {t : TA} {E : L2.St → XK}
theorem pe_pb {K : PySem.W.Frag} (F : NcPB X.prog X.w K X.mg X.base k C CB) (pass : ∀ σ, PassesAt (L2.CX X.prog X.w) X σ (E σ)) (room : Room (k + 1) X.A)
    (ha : PA X (e :: es) t) (hg : Gl X "PlainBook" := by rfl)
    (he : starEach (e :: es) X.env = (false, eval e X.env) :: starEach es X.env := by rfl) (hpl : (backTo pos (starEach es X.env)).any (·.1) = false := by rfl) (hK : X.K = K := by rfl) :
    PE X (.Call (.Name "PlainBook" p) (e :: es) [] pos) (tNew C (spInitPB K C CB) [] E t) := by
  subst hK
  obtain ⟨f, fd, mk, ok, g, b⟩ := F
  exact pe_new mk ok pass room g b .nil ha hg (by decide) he hpl
end
def spOpt (K : PySem.W.Frag) (C : Addr) : Sp := fun vs H Q _ => ∃ (p o : Addr) (s f : Int) (cs : List Ch) (n : Str) (i j : Int), vs = [.ref p, .str n, .int i, .int j] ∧ PB K C H p o s f cs ∧ Sml 200 cs ∧ ∀ q H', Kp [] H H' → H q = none → DL K [] H' q ((optsK cs [.inr n, .inl i, .inl j]).map ePr) → Q (.ref q) H'
def single (cs : List Ch) : Bool := cs.all fun c => decide ((cs.filter (fun d => sameK d c)).length = 1)
theorem upd_back {H : Hp} {a : Addr} {o : HO} (h : H a = some o) : upd H a o = H := by
  funext b
  by_cases e : b = a
  · rw [e, upd_same, h]
  · rw [upd_ne e]
theorem single_f {cs : List Ch} {k : List Key} (h : 1 < (optsK cs k).length) : single cs = false := by
  rw [← Bool.not_eq_true]
  intro z
  unfold single at z
  rw [List.all_eq_true] at z
  have : ∃ c ∈ cs, keyOf c = k := by
    cases e : cs.filter (fun c => decide (keyOf c = k)) with
    | nil => unfold optsK at h; rw [e] at h; simp at h
    | cons d r =>
      have : d ∈ cs.filter (fun c => decide (keyOf c = k)) := by rw [e]; exact List.mem_cons_self
      obtain ⟨h1, h2⟩ := List.mem_filter.mp this
      exact ⟨d, h1, by simpa using h2⟩
  obtain ⟨c, hc, rfl⟩ := this
  have q := z c hc
  rw [optsK_len] at h
  rw [decide_eq_true_eq] at q
  omega
theorem single_t {cs : List Ch} {sd : List (List Key × PyData)} (g : GrpS cs sd) (h : ∀ x ∈ sd, ∀ l, x.2 = .tuple l → l.length ≤ 1) : single cs = true := by
  unfold single
  rw [List.all_eq_true]
  intro c hc
  rw [decide_eq_true_eq, ← optsK_len]
  have m : (c.t, c.r) ∈ optsK cs (keyOf c) := optsK_mem.mpr hc
  have l1 := List.length_pos_of_mem m
  have v := g.v (keyOf c)
  rw [if_neg (fun z => by rw [z] at m; cases m)] at v
  have := h _ (valD_mem v) _ rfl
  rw [List.length_map] at this
  omega
def spDet (K : PySem.W.Frag) (C : Addr) : Sp := fun vs H Q _ => ∃ (p o : Addr) (s f : Int) (cs : List Ch), vs = [.ref p] ∧ PB K C H p o s f cs ∧ Sml 200 cs ∧ ∀ H', Kp [] H H' → Q (.bl (single cs)) H'
local macro_rules | `(tactic| tm_at "step") => `(tactic| first | (with_reducible refine u_sfld ?_) | fail)

section
variable {P : Program} {w : World} {K : PySem.W.Frag} {mg : Str → Option Value} {base : Heap} {CPlainBook CCodeBook CStock COddsError CBadShare CBadText CBadBook CBadMove CBadProgram CBadPlan CUnfit CTooLarge CBadEdit CCODE_FORMS CIDLE : Addr}
theorem lc_hand {K : PySem.W.Frag} {B : Bs} {Z : List Addr} {H : Hp} {e : Ent} {v : V} {cs : List Ch} {how : Int} {R : VK} {p : Addr} {s f : Int} (hcl : cs.length ≤ 200) (hs : Hs K B Z H [e] [([v], [hand cs how])])
    (rest : ∀ D Z3 H9, Hs K B Z3 H9 [.dl K D (cs.map eCh) true, e] [([v], [hand cs how])] → R (.ref D) H9) :
    ItA K v (fun J H1 => LcQ J (gName 4) tYes (tCB (rTupOf K) (tCons (tVar 4) tNil)) [4] [some (.ref p), some (.int s), some (.int f), some v, none] R H1) H := by
  have lc : (cs.map eCh).length = cs.length := List.length_map _
  have lcL : (cs.map eChL).length = cs.length := List.length_map _
  by_cases h0 : how = 0
  · subst h0
    have hs : Hs K B Z H [e] [([v], [.list (cs.map eChL)])] := hs
    refine .inl (h_iL (ds := cs.map eChL) (by tm_at "lr") ?_)
    refine h_lcL (cs.map eChL) (fun i acc => acc = (cs.take i).map eCh) hs (fun D acc Z' H' h => by tm_at "lr") rfl (fun D i2 d x2 acc Z3 H9 hd2 hr hacc hz hs9 => ?_) (fun D acc Z3 H9 hr hacc hz hs9 => ?_)
    · obtain ⟨c, he, rfl⟩ := at_map hd2
      have hi2 : i2 < 100000 := by have := (List.getElem?_eq_some_iff.mp he).1; omega
      tm_at "run"
      show _ = _
      rw [_root_.Fr.take_more he, map_snoc, hr]
    · rw [lcL, List.take_length] at hr
      rw [hr] at hs9
      exact rest _ _ _ hs9
  by_cases h1 : how = 1
  · subst h1
    have hs : Hs K B Z H [e] [([v], [.list (cs.map eCh)])] := hs
    refine .inl (h_iL (ds := cs.map eCh) (by tm_at "lr") ?_)
    refine h_lcL (cs.map eCh) (fun i acc => acc = (cs.take i).map eCh) hs (fun D acc Z' H' h => by tm_at "lr") rfl (fun D i2 d x2 acc Z3 H9 hd2 hr hacc hz hs9 => ?_) (fun D acc Z3 H9 hr hacc hz hs9 => ?_)
    · obtain ⟨c, he, rfl⟩ := at_map hd2
      have hi2 : i2 < 100000 := by have := (List.getElem?_eq_some_iff.mp he).1; omega
      tm_at "run"
      show _ = _
      rw [_root_.Fr.take_more he, map_snoc, hr]
    · rw [lc, List.take_length] at hr
      rw [hr] at hs9
      exact rest _ _ _ hs9
  by_cases h2 : how = 2
  · subst h2
    have hs : Hs K B Z H [e] [([v], [.tuple (cs.map eChL)])] := hs
    refine .inr (h_iT (ds := cs.map eChL) (by tm_at "dt") ?_)
    refine h_lcT (cs.map eChL) (fun i acc => acc = (cs.take i).map eCh) hs (fun D acc Z' H' h => by tm_at "dt") rfl (fun D i2 d x2 acc Z3 H9 hd2 hr hacc hz hs9 => ?_) (fun D acc Z3 H9 hr hacc hz hs9 => ?_)
    · obtain ⟨c, he, rfl⟩ := at_map hd2
      have hi2 : i2 < 100000 := by have := (List.getElem?_eq_some_iff.mp he).1; omega
      tm_at "run"
      show _ = _
      rw [_root_.Fr.take_more he, map_snoc, hr]
    · rw [lcL, List.take_length] at hr
      rw [hr] at hs9
      exact rest _ _ _ hs9
  · have eh : hand cs how = .tuple (cs.map eCh) := by unfold hand; rw [if_neg h0, if_neg h1, if_neg h2]
    rw [eh] at hs rest
    refine .inr (h_iT (ds := cs.map eCh) (by tm_at "dt") ?_)
    refine h_lcT (cs.map eCh) (fun i acc => acc = (cs.take i).map eCh) hs (fun D acc Z' H' h => by tm_at "dt") rfl (fun D i2 d x2 acc Z3 H9 hd2 hr hacc hz hs9 => ?_) (fun D acc Z3 H9 hr hacc hz hs9 => ?_)
    · obtain ⟨c, he, rfl⟩ := at_map hd2
      have hi2 : i2 < 100000 := by have := (List.getElem?_eq_some_iff.mp he).1; omega
      tm_at "run"
      show _ = _
      rw [_root_.Fr.take_more he, map_snoc, hr]
    · rw [lc, List.take_length] at hr
      rw [hr] at hs9
      exact rest _ _ _ hs9
theorem ok_PlainBook (T : Txt P w K mg CPlainBook CCodeBook CStock COddsError CBadShare CBadText CBadBook CBadMove CBadProgram CBadPlan CUnfit CTooLarge CBadEdit CCODE_FORMS CIDLE) : NcPB P w K mg base 3 CPlainBook CBadBook := by
  obtain ⟨fi, fd, mk, F⟩ := T.d_initPlainBook
  refine ⟨fi, fd, mk, ?_, T.pb.g, F.binds (fun _ _ _ _ _ _ us hl => match us, hl with | [_, _, _, _], _ => rfl)⟩
  refine F.okX sc_PlainBook___init__ (fun vs H Q E h => by obtain ⟨p, dx, s, f, Z, v, cs, how, rfl, _⟩ := h; rfl) fun cdv A outer s0 H vs Q E hr h => ⟨_, (pss_cons (ps_fld (pv 0) (pv 1) rfl)
 (pss_cons (ps_fld (pv 0) (pv 2) rfl)
 (pss_cons (ps_fld (pv 0) (pe_callTy (tupK K) (by rfl) T.n_tuple b_tuple (pa_cons (pe_lc (own := [("choice", 4)]) (g := (gName 4)) (tt := tYes) rfl sc_PlainBook___init__.nd (piAK K (pv 3)) (blkOk_by (own := [("choice", 4)]) (N := ["self", "states", "first", "choices", "choice"]) (sc := defScope s_PlainBook___init__) (by decide +kernel)) (fun _ _ _ _ _ => (pg_name (i := 4) sc_PlainBook___init__.nd rfl (Or.inl rfl))) (fun _ _ _ _ _ => pts_nil) (fun _ _ _ _ _ => (pe_callTy (tupK K) (by rfl) T.n_tuple b_tuple (pa_cons (pv 4) pa_nil)))) pa_nil)) rfl)
 (pss_cons (ps_if (pt_not (pt_chain op_le op_le pe_int (pv 1) (C8.pe_gc (v := .int 600) rfl T.g_MOST_STATES)))
 (pss_one (ps_raise rfl (takes_of rfl rfl rfl rfl) (pmk_own PySem.F.excBase_ValueError T.x_BadBook T.e_BadBook.g T.e_BadBook.k (raises_own T.e_BadBook.b T.e_BadBook.t) rfl)))
 pss_nil)
 (pss_cons (ps_if (pt_not (pt_chain op_le op_lt pe_int (pv 2) (pv 1)))
 (pss_one (ps_raise rfl (takes_of rfl rfl rfl rfl) (pmk_own PySem.F.excBase_ValueError T.x_BadBook T.e_BadBook.g T.e_BadBook.k (raises_own T.e_BadBook.b T.e_BadBook.t) rfl)))
 pss_nil)
 (pss_cons (ps_for (passes_of rfl) rfl (piTK K (fldK K (pv 0) rfl)) (pg_name (i := 4) sc_PlainBook___init__.nd rfl (Or.inl rfl))
 (pss_one (ps_expr (pe_fc (ok_check_choice T) (passes_call (takes_of rfl rfl rfl rfl) (fun _ _ _ _ h => h)) (hr.mono (by omega)) (pa_cons (pv 4) (pa_cons (pv 1) pa_nil))))))
 (pss_one (ps_fld (pv 0) (pe_fc (ok_grouped_options T) (passes_call (takes_of rfl rfl rfl rfl) (fun _ _ _ _ h => h)) (hr.mono (by omega)) (pa_cons (fldK K (pv 0) rfl) pa_nil)) rfl)))))))), ?_⟩
  obtain ⟨p, dx, s, f, Z, v, cs, how, rfl, hp, pz, zl, hv, pre, bad, good⟩ := h
  have hs : Hs K ⟨H, [p], Z⟩ Z H [.obj p (.ins CPlainBook dx []) true] [([v], [hand cs how])] := ((Hs.start (fun b hb => by rw [one_mem hb]; exact ⟨_, hp⟩) zl).ent (.obj p (.ins CPlainBook dx []) true) hp (fun _ z => by cases z) (fun b hb => by rw [one_mem hb]; exact pz) (fun _ b hb => .inl hb)).fact1 hv
  have hcl := pre.1
  have lc : (cs.map eCh).length = cs.length := List.length_map _
  tm_at "go"
  refine h_sf T.pb.cl T.pb.n1 hs .here (by decide) fun H1 hs1 => ?_
  tm_at "run"
  refine h_sf T.pb.cl T.pb.n2 hs1 .here (by show 1 < 1000; decide) fun H2 hs2 => ?_
  rw [put2] at hs2
  tm_at "run"
  refine lc_hand hcl hs2 fun D Z3 H9 hs3 => ?_
  tm_at "run"
  rename_i pT HT hsT
  refine h_sf T.pb.cl T.pb.n3 hsT (.there .here) (by show 2 < 1000; decide) fun H4 hs4 => ?_
  rw [put3] at hs4
  have hs5 : Hs K ⟨H, [p], Z⟩ Z3 H4 [.obj p (.ins CPlainBook dx [("states", .int s), ("first", .int f), ("choices", .ref pT)]) true] [([.ref pT], [.tuple (cs.map eCh)])] := by tm_at "wk"
  clear hs hs1 hs2 hs3 hsT hs4
  have nb0 : ¬ (1 ≤ s ∧ s ≤ 600 ∧ 0 ≤ f ∧ f < s) → isBook s f cs = false := fun h => by
    rw [← Bool.not_eq_true, isBook_iff]; exact fun z => h z.1
  have nb1 : ∀ c ∈ cs, okCh s c = false → isBook s f cs = false := fun c hc h => by
    rw [← Bool.not_eq_true, isBook_iff]; exact fun z => by have := (z.2 c hc).1; rw [h] at this; cases this
  tm_at "run"
  · refine h_fld T.pb.cl T.pb.n3 hs5 .here pb3_l3 ?_
    refine h_iT (ds := cs.map eCh) (by tm_at "dt") ?_
    refine l_dt (cs.map eCh) (fun i σ H' => ∃ u : Option V, σ = [some (.ref p), some (.int s), some (.int f), some v, u] ∧ (∀ c ∈ cs.take i, okCh s c = true) ∧ Hs K ⟨H, [p], Z⟩ Z3 H' [.obj p (.ins CPlainBook dx [("states", .int s), ("first", .int f), ("choices", .ref pT)]) true] [([.ref pT], [.tuple (cs.map eCh)])]) ?_ ?_ ?_ ?_
    · exact ⟨none, rfl, fun c hc => (by simp at hc), hs5⟩
    · rintro i σ H' hi ⟨u, rfl, _, hs6⟩
      exact ⟨Z3, by tm_at "dt"⟩
    · rintro i d x σ H' hd hx ⟨u, rfl, all, hs6⟩
      obtain ⟨c, hc, rfl⟩ := at_map hd
      have hcm : c ∈ cs := List.mem_of_getElem? hc
      have hs7 := hs6.fact1 (hx Z3 (by tm_at "dt"))
      tm_at "run"
      refine ⟨Z3, c, s, x, rfl, hs7.zl, by tm_at "dt", pre.2 c hcm, fun e H' k9 => bad (nb1 c hcm e) _ (hs7.same k9).kp, fun e H' k9 => ?_⟩
      have hs8 := hs6.same k9
      tm_at "run"
      refine ⟨_, rfl, fun c2 hc2 => ?_, hs8⟩
      rw [_root_.Fr.take_more hc] at hc2
      rcases List.mem_append.mp hc2 with y | y
      · exact all c2 y
      · rw [List.mem_singleton.mp y]; exact e
    · rintro σ H' ⟨u, rfl, all, hs6⟩
      rw [lc, List.take_length] at all
      tm_at "run"
      refine h_fld T.pb.cl T.pb.n3 hs6 .here pb3_l3 ?_
      tm_at "run"
      refine ⟨Z3, cs, .ref pT, rfl, hs6.zl, by tm_at "dt", pre, fun e H' k9 => bad ?_ _ (hs6.same k9).kp, fun e o H' sd k9 no dd gs => ?_⟩
      · rw [← Bool.not_eq_true]
        unfold isBook
        rw [e, Bool.and_false, Bool.and_false]
        exact Bool.false_ne_true
      have hs7 := hs6.new k9 (.dd K o sd true) (fun a ha => by rw [one_mem ha]; exact no) (by obtain ⟨r, h1, h2⟩ := dd; exact ⟨r, h1, h2.zs (fun _ z => by cases z)⟩)
      tm_at "run"
      refine h_sf T.pb.cl T.pb.n4 hs7 (.there .here) (by show 3 < 1000; decide) fun H8 hs8 => ?_
      rw [put4] at hs8
      have op : o ∉ [p] := fun z => by
        rw [one_mem z, hs6.obj .here] at no
        cases no
      have gb : isBook s f cs = true := by
        unfold isBook headOk
        rw [e, List.all_eq_true.mpr all]
        simp
        omega
      obtain ⟨r, h1, h2⟩ := (hs8.get .here : DDt K Z3 H8 o sd)
      refine good gb H8 o hs8.kp (Hs_newD hs8 .here op) ⟨dx, .ref pT, sd, hs8.obj (.there .here), dt_noZ _ _ (noLs_map eCh (fun _ => rfl) cs) (by tm_at "dt"), ⟨r, h1, dr_noZ h2 (grp_noL gs)⟩, gs⟩
  all_goals exact bad (nb0 (by omega)) _ hs5.kp
theorem ok_PlainBook_options (T : Txt P w K mg CPlainBook CCodeBook CStock COddsError CBadShare CBadText CBadBook CBadMove CBadProgram CBadPlan CUnfit CTooLarge CBadEdit CCODE_FORMS CIDLE) : Mc P w K mg base CX0 1 CPlainBook "options" ["self", "deed", "state", "argument"] (spOpt K CPlainBook) := by
  refine mc_of T.d_PlainBook_options sc_PlainBook_options (fun vs H Q E h => by obtain ⟨p, o, s, f, cs, n, i, j, rfl, pb, pre, k⟩ := h; rfl) (fun _ _ _ _ _ _ us hl => match us, hl with | [_, _, _, _], _ => rfl) fun f cdv A outer s H vs Q E hr h => ⟨_, (pss_one (ps_ret (pe_callTy (listK K) (by rfl) T.n_list b_list (pa_cons (pe_dget2 (hu_of hr) (fldK K (pv 0) rfl) (pe_tup (pa_cons (pv 1) (pa_cons (pv 2) (pa_cons (pv 3) pa_nil)))) (pe_tup pa_nil) ⟨rfl, rfl, rfl, rfl⟩) pa_nil)))), ?_⟩
  obtain ⟨p, o, s, f, cs, n, i, j, rfl, pb, pre, k⟩ := h
  obtain ⟨dx, c, sd, hp, hc, hd, gs⟩ := pb
  have hs : Hs K ⟨H, [], []⟩ [] H [.dd K o sd false] [] := (Hs.start (fun _ z => by cases z) (fun _ z => by cases z)).ent (.dd K o sd false) hd (fun _ z => by cases z) (fun _ _ z => by cases z) (fun z => by cases z)
  tm_at "go"
  refine fld_of T.pb.cl T.pb.n4 hp pb_l4 ?_
  refine h_dgA hs .here ?_
  tm_at "run"
  rename_i hq9
  refine h_dgB (s := sd) (dz := .tuple []) (w := false) [.inr n, .inl i, .inl j] hq9 .here (show Dt K [] _ _ (.tuple [.str n, .int i, .int j]) from by tm_at "dt") (by tm_at "dt") fun y hy => ?_
  rw [gs.get] at hy
  tm_at "run"
  rename_i hq8
  exact k _ _ hq8.kp (hq8.newP .here (by simp)) (hq8.dl .here)

end


/-! my own steps: rows of tactics, tried from above -/

/-! steps over Hs -/









/-! marks, states, takes -/
inductive Mrk
  | idle
  | ask (d : Str) (a : Int)
  | done (v : Int)
abbrev eM : Mrk → PyData
  | .idle => .tuple []
  | .ask d a => .tuple [.int 0, .str d, .int a]
  | .done v => .tuple [.int 1, .int v]
def isAsk : Mrk → Bool
  | .ask _ _ => true
  | _ => false
abbrev eS (n : Int) (ms : List Mrk) : PyData := .tuple [.int n, .tuple (ms.map eM)]
abbrev Ld := (Nat × Nat) × (Int × List Mrk)
abbrev eLd (l : Ld) : PyData := .tuple [.tuple [.int l.1.1, .int l.1.2], eS l.2.1 l.2.2]
def optA (cs : List Ch) (n : Int) : Mrk → List (Int × Int)
  | .ask d a => optsK cs [.inr d, .inl n, .inl a]
  | _ => []
def leadP (ms : List Mrk) (p : Nat) (os : List (Int × Int)) : List Ld := os.zipIdx.map fun x => ((p, x.2), (x.1.1, ms.set p (.done x.1.2)))
def leadA (cs : List Ch) (n : Int) (ms : List Mrk) (p : Nat) : List Ld := leadP ms p (optA cs n (ms.getD p .idle))
def leads (cs : List Ch) (n : Int) (ms : List Mrk) (k : Nat) : List Ld := (List.range k).flatMap (leadA cs n ms)
theorem leads_succ (cs : List Ch) (n : Int) (ms : List Mrk) (k : Nat) : leads cs n ms (k + 1) = leads cs n ms k ++ leadA cs n ms k := by
  unfold leads
  rw [List.range_succ, List.flatMap_append]
  simp
theorem leadP_snoc (ms : List Mrk) (p : Nat) (os : List (Int × Int)) (x : Int × Int) : leadP ms p (os ++ [x]) = leadP ms p os ++ [((p, os.length), (x.1, ms.set p (.done x.2)))] := by
  unfold leadP
  rw [List.zipIdx_append, List.map_append]
  simp
abbrev S_done_mark : List PyData → (PyData → Prop) → Prop := fun ds φ => ∃ (v : Int), ds = [.int v] ∧ (φ (.tuple [.int 1, .int v]))
theorem sp_done_mark {φ : PyData → Prop} {v : Int} (k_ : φ (.tuple [.int 1, .int v])) : S_done_mark [.int v] φ := ⟨v, rfl, k_⟩
local macro_rules | `(tactic| tm_at "step") => `(tactic| first | (with_reducible refine sp_done_mark ?_) | fail)
abbrev S_is_asked : List PyData → (PyData → Prop) → Prop := fun ds φ => ∃ (m : Mrk), ds = [eM m] ∧ (φ (.bool (isAsk m)))
theorem sp_is_asked {φ : PyData → Prop} {m : Mrk} (k_ : φ (.bool (isAsk m))) : S_is_asked [eM m] φ := ⟨m, rfl, k_⟩
local macro_rules | `(tactic| tm_at "step") => `(tactic| first | (with_reducible refine sp_is_asked ?_) | fail)
abbrev S_with_mark : List PyData → (PyData → Prop) → Prop := fun ds φ => ∃ (ts : List PyData), ∃ (p : Nat), ∃ (g : PyData), ds = [.tuple ts, .int (p : Nat), g] ∧ (p < ts.length ∧ ts.length ≤ 8) ∧ (φ (.tuple (ts.set p g)))
theorem sp_with_mark {φ : PyData → Prop} {ts : List PyData} {p : Nat} {g : PyData} (p_ : p < ts.length ∧ ts.length ≤ 8) (k_ : φ (.tuple (ts.set p g))) : S_with_mark [.tuple ts, .int (p : Nat), g] φ := ⟨ts, p, g, rfl, p_, k_⟩
local macro_rules | `(tactic| tm_at "step") => `(tactic| first | (with_reducible refine' sp_with_mark ?k1 ?_; (case k1 => tm_at "pre")) | fail)
theorem cut_tkF {α : Type} (f : α → PyData) (ls : List α) {i : Int} (h : 0 ≤ i) : U.cutD (ls.map f) none (some i) = (ls.take i.toNat).map f := by
  obtain ⟨n, rfl⟩ : ∃ n : Nat, i = (n : Int) := ⟨i.toNat, by omega⟩
  unfold U.cutD
  have e0 : HT.sIx (ls.map f).length 0 none = 0 := rfl
  rw [e0, HT.sIx_nat, List.drop_zero, Nat.sub_zero, Int.toNat_natCast, List.map_take, List.length_map]
  by_cases hn : n ≤ ls.length
  · rw [Nat.min_eq_left hn]
  · rw [Nat.min_eq_right (by omega), List.take_of_length_le (by rw [List.length_map]; omega), List.take_of_length_le (by rw [List.length_map]; omega)]
theorem cut_drF {α : Type} (f : α → PyData) (ls : List α) {i : Int} (h : 0 ≤ i) : U.cutD (ls.map f) (some i) none = (ls.drop i.toNat).map f := by
  obtain ⟨n, rfl⟩ : ∃ n : Nat, i = (n : Int) := ⟨i.toNat, by omega⟩
  unfold U.cutD
  have e2 : HT.sIx (ls.map f).length (ls.map f).length none = (ls.map f).length := rfl
  rw [e2, HT.sIx_nat, Int.toNat_natCast, List.map_drop, List.length_map]
  by_cases hn : n ≤ ls.length
  · rw [Nat.min_eq_left hn, List.take_of_length_le (by rw [List.length_drop, List.length_map]; exact Nat.le_refl _)]
  · rw [Nat.min_eq_right (by omega), List.drop_eq_nil_of_le (by rw [List.length_map]; omega), List.drop_eq_nil_of_le (by rw [List.length_map]; omega), List.take_nil]
theorem with_set (ds : List PyData) (p : Nat) (d : PyData) (h : p < ds.length) : U.cutD ds none (some (p : Nat)) ++ [d] ++ U.cutD ds (some ((p : Nat) + 1)) none = ds.set p d := by
  have a1 := cut_tkF (fun x : PyData => x) ds (i := ((p : Nat) : Int)) (by omega)
  have a2 := cut_drF (fun x : PyData => x) ds (i := ((p : Nat) : Int) + 1) (by omega)
  simp only [List.map_id'] at a1 a2
  have e1 : ((p : Nat) : Int).toNat = p := by omega
  have e2 : (((p : Nat) : Int) + 1).toNat = p + 1 := by omega
  rw [a1, a2, List.set_eq_take_append_cons_drop, if_pos h, e1, e2]
  simp
theorem eM_depth (m : Mrk) : (eM m).depth ≤ 2 := by cases m <;> exact Nat.le_of_ble_eq_true rfl
theorem dp_idle {K : PySem.W.Frag} {H : Hp} {c : Addr} (s : ∀ H, SqT K H c []) : Dp K H (.ref c) (.tuple []) := .tup (s H) .nil

section
variable {P : Program} {w : World} {K : PySem.W.Frag} {mg : Str → Option Value} {base : Heap} {CPlainBook CCodeBook CStock COddsError CBadShare CBadText CBadBook CBadMove CBadProgram CBadPlan CUnfit CTooLarge CBadEdit CCODE_FORMS CIDLE : Addr}
theorem ok_done_mark (T : Txt P w K mg CPlainBook CCodeBook CStock COddsError CBadShare CBadText CBadBook CBadMove CBadProgram CBadPlan CUnfit CTooLarge CBadEdit CCODE_FORMS CIDLE) : Fc P w K mg base CX0 1 "done_mark" ["value"] (spV K S_done_mark) := by
  refine fc_of T.d_done_mark sc_done_mark (fun vs H Q E h => by obtain ⟨Z, ds, zl, q, v, rfl, k⟩ := h; have := q.length; rw [this]; rfl) (fun _ _ _ _ _ _ us hl => match us, hl with | [_], _ => rfl) fun f cdv A outer s H vs Q E hr h => ⟨_, (pss_one (ps_ret (pe_tup (pa_cons (C8.pe_gc (v := .int 1) rfl T.g_DONE) (pa_cons (pv 0) pa_nil))))), ?_⟩
  obtain ⟨Z, ds, zl, q, v, rfl, k⟩ := h
  have hs := in_v zl q
  obtain ⟨_, e_, h2⟩ := hs.argI; clear hs; subst e_; have hs := h2; clear h2
  obtain ⟨e_, h2⟩ := hs.argN; clear hs; subst e_; have hs := h2; clear h2
  tm_at "go"
  tm_at "finv"
  exact k
theorem ok_is_asked (T : Txt P w K mg CPlainBook CCodeBook CStock COddsError CBadShare CBadText CBadBook CBadMove CBadProgram CBadPlan CUnfit CTooLarge CBadEdit CCODE_FORMS CIDLE) : Fc P w K mg base CX0 1 "is_asked" ["mark"] (spV K S_is_asked) := by
  refine fc_of T.d_is_asked sc_is_asked (fun vs H Q E h => by obtain ⟨Z, ds, zl, q, m, rfl, k⟩ := h; have := q.length; rw [this]; rfl) (fun _ _ _ _ _ _ us hl => match us, hl with | [_], _ => rfl) fun f cdv A outer s H vs Q E hr h => ⟨_, (pss_one (ps_ret (pe_and (pe_cmpR (neAK K hr.units) (pv 0) (C8.pe_gc rfl T.g_IDLE) (nomark _)) (pe_one (pe_cmpR op_eq (pe_ix (ixtK K) (pv 0) pe_int (fun _ _ => rfl)) (C8.pe_gc (v := .int 0) rfl T.g_ASKED) (nomark _)))))), ?_⟩
  obtain ⟨Z, ds, zl, q, m, rfl, k⟩ := h
  have hs := in_v zl q
  obtain ⟨v0, _, e_, h2⟩ := hs.arg; clear hs; subst e_; have hs := h2; clear h2
  obtain ⟨e_, h2⟩ := hs.argN; clear hs; subst e_; have hs := h2; clear h2
  tm_at "go"
  have dv : Dt K Z H v0 (eM m) := by tm_at "dt"
  refine ⟨eM m, .tuple [], dv.dp, dp_idle T.idle, dv.plain, rfl, by have := eM_depth m; omega, ?_⟩
  cases m with
  | idle =>
    have e0 : PyData.eqv (eM .idle) (.tuple []) = true := by decide
    simp only [if_true, e0, Bool.not_true, Bool.not_false]
    tm_at "run"
    tm_at "finv"
    exact k
  | ask d a =>
    have e0 : PyData.eqv (eM (.ask d a)) (.tuple []) = false := rfl
    simp only [if_true, e0, Bool.not_true, Bool.not_false]
    tm_at "run"
    tm_at "finv"
    exact k
  | done v =>
    have e0 : PyData.eqv (eM (.done v)) (.tuple []) = false := rfl
    simp only [if_true, e0, Bool.not_true, Bool.not_false]
    tm_at "run"
    tm_at "finv"
    exact k
theorem ok_with_mark (T : Txt P w K mg CPlainBook CCodeBook CStock COddsError CBadShare CBadText CBadBook CBadMove CBadProgram CBadPlan CUnfit CTooLarge CBadEdit CCODE_FORMS CIDLE) : Fc P w K mg base CX0 1 "with_mark" ["marks", "port", "mark"] (spV K S_with_mark) := by
  refine fc_of T.d_with_mark sc_with_mark (fun vs H Q E h => by obtain ⟨Z, ds, zl, q, ts, p, g, rfl, pre, k⟩ := h; have := q.length; rw [this]; rfl) (fun _ _ _ _ _ _ us hl => match us, hl with | [_, _, _], _ => rfl) fun f cdv A outer s H vs Q E hr h => ⟨_, (pss_one (ps_ret (pe_op (catAK K) (pe_op (catAK K) (pe_slice (sltAK K) (pv 0) po_none (po_some (pv 1))) (pe_tup (pa_cons (pv 2) pa_nil))) (pe_slice (sltAK K) (pv 0) (po_some (pe_op op_add (pv 1) pe_int)) po_none)))), ?_⟩
  obtain ⟨Z, ds, zl, q, ts, p, g, rfl, pre, k⟩ := h
  have hs := in_v zl q
  obtain ⟨v0, _, e_, h2⟩ := hs.arg; clear hs; subst e_; have hs := h2; clear h2
  obtain ⟨_, e_, h2⟩ := hs.argI; clear hs; subst e_; have hs := h2; clear h2
  obtain ⟨v2, _, e_, h2⟩ := hs.arg; clear hs; subst e_; have hs := h2; clear h2
  obtain ⟨e_, h2⟩ := hs.argN; clear hs; subst e_; have hs := h2; clear h2
  have l1 := U.cut_len ts none (some (p : Nat))
  have l2 := U.cut_len ts (some ((p : Nat) + 1)) none
  have es := with_set ts p g pre.1
  tm_at "go"
  tm_at "finv"
  rw [es]
  exact k

end


/-! my own steps: rows of tactics, tried from above -/

/-! steps over Hs -/









/-! the takes of a plain state -/
theorem meth_pb {K : PySem.W.Frag} {C p o : Addr} {H : Hp} {st fi : Int} {cs : List Ch} {R : Prop} (pb : PB K C H p o st fi cs) (q : R) : MethQ C "options" (.ref p) H R := by
  obtain ⟨dx, c, sd, h1, h2, h3, h4⟩ := pb
  exact ⟨p, dx, _, rfl, h1, pb_no (by decide +kernel) (by decide +kernel) (by decide +kernel) (by decide +kernel), q⟩
def MsOk (ms : List Mrk) : Prop := ms.length ≤ 8
def spLeads (K : PySem.W.Frag) (C : Addr) : Sp := fun vs H Q _ => ∃ (p o : Addr) (s f : Int) (cs : List Ch) (Z : List Addr) (v : V) (n : Int) (ms : List Mrk), vs = [.ref p, v] ∧ PB K C H p o s f cs ∧ (∀ z ∈ Z, ∃ o, H z = some o) ∧ Dt K Z H v (eS n ms) ∧ Sml 200 cs ∧ ms.length ≤ 8 ∧
  ∀ q H', Kp [] H H' → Rl K Z H H' q ((leads cs n ms ms.length).map eLd) → Q (.ref q) H'
local macro_rules | `(tactic| tm_at "step") => `(tactic| first | (with_reducible refine u_enT ?_) | (with_reducible refine u_enL ?_) | fail)
local macro_rules | `(tactic| tm_at "step") => `(tactic| first | (with_reducible refine' h_enT ?k1 ?_; (case k1 => tm_at "dt")) | (with_reducible refine' h_enL ?k1 ?_; (case k1 => tm_at "lr")) | fail)
theorem leadP_len (ms : List Mrk) (p : Nat) (os : List (Int × Int)) : (leadP ms p os).length = os.length := by
  unfold leadP
  rw [List.length_map, List.length_zipIdx]
theorem optA_len (cs : List Ch) (n : Int) (m : Mrk) : (optA cs n m).length ≤ cs.length := by
  cases m with
  | ask d a => show (optsK _ _).length ≤ _; unfold optsK; rw [List.length_map]; exact List.length_filter_le _ _
  | idle => exact Nat.zero_le _
  | done v => exact Nat.zero_le _
theorem leads_len (cs : List Ch) (n : Int) (ms : List Mrk) (k : Nat) (hc : cs.length ≤ 200) : (leads cs n ms k).length ≤ k * 200 := by
  induction k with
  | zero => exact Nat.le_refl _
  | succ k ih =>
    rw [leads_succ, List.length_append]
    have := optA_len cs n (ms.getD k .idle)
    have e : (leadA cs n ms k).length = (optA cs n (ms.getD k .idle)).length := leadP_len _ _ _
    omega
theorem ld_snoc (L : List Ld) (ms : List Mrk) (i : Nat) (os : List (Int × Int)) (j : Nat) (b r : Int) (h : os[j]? = some (b, r)) : (L ++ leadP ms i (os.take (j + 1))).map eLd = (L ++ leadP ms i (os.take j)).map eLd ++ [.tuple [.tuple [.int (i : Nat), .int (j : Nat)], .tuple [.int b, .tuple ((ms.map eM).set i (.tuple [.int 1, .int r]))]]] := by
  have e1 : os.take (j + 1) = os.take j ++ [(b, r)] := by rw [List.take_add_one, h]; rfl
  have hj : j < os.length := (List.getElem?_eq_some_iff.mp h).1
  have e2 : (os.take j).length = j := by rw [List.length_take]; omega
  rw [e1, leadP_snoc, e2, ← List.append_assoc, List.map_append]
  congr 1
  show [eLd _] = _
  simp only [eLd, eS, List.map_set, eM]

section
variable {P : Program} {w : World} {K : PySem.W.Frag} {mg : Str → Option Value} {base : Heap} {CPlainBook CCodeBook CStock COddsError CBadShare CBadText CBadBook CBadMove CBadProgram CBadPlan CUnfit CTooLarge CBadEdit CCODE_FORMS CIDLE : Addr}
theorem ok_take_leads (T : Txt P w K mg CPlainBook CCodeBook CStock COddsError CBadShare CBadText CBadBook CBadMove CBadProgram CBadPlan CUnfit CTooLarge CBadEdit CCODE_FORMS CIDLE) : Fc P w K mg base CX0 2 "take_leads" ["plain", "state"] (spLeads K CPlainBook) := by
  refine fc_of T.d_take_leads sc_take_leads (fun vs H Q E h => by obtain ⟨p, o, s, f, cs, Z, v, n, ms, rfl, pb, zl, dv, pre, m8, k⟩ := h; rfl) (fun _ _ _ _ _ _ us hl => match us, hl with | [_, _], _ => rfl) fun f cdv A outer s H vs Q E hr h => ⟨_, (pss_cons (ps_asg (pv 1) (pgTK K 2 (by rfl) (pgs_cons (pg_name (i := 2) sc_take_leads.nd rfl (Or.inl rfl)) (pgs_cons (pg_name (i := 3) sc_take_leads.nd rfl (Or.inl rfl)) pgs_nil))))
 (pss_cons (ps_set (i := 4) sc_take_leads.nd rfl (Or.inl rfl) (pe_lst pa_nil))
 (pss_cons (ps_for PassesOwn.never rfl (pi_enumT (K := K) (by rfl) T.n_enumerate (pa_cons (pv 3) pa_nil)) (pgTK K 2 (by rfl) (pgs_cons (pg_name (i := 5) sc_take_leads.nd rfl (Or.inl rfl)) (pgs_cons (pg_name (i := 6) sc_take_leads.nd rfl (Or.inl rfl)) pgs_nil)))
 (pss_one (ps_if (pt_val (pe_fc (ok_is_asked T) pass0 (hr.mono (by omega)) (pa_cons (pv 6) pa_nil)))
 (pss_cons (ps_set (i := 7) sc_take_leads.nd rfl (Or.inl rfl) (pe_mc (ok_PlainBook_options T) T.pb.cl pass0 (hr.mono (by omega)) (pv 0) (pa_cons (pe_ix (ixtK K) (pv 6) pe_int (fun _ _ => rfl)) (pa_cons (pv 2) (pa_cons (pe_ix (ixtK K) (pv 6) pe_int (fun _ _ => rfl)) pa_nil)))))
 (pss_one (ps_for PassesOwn.never rfl (pi_enum (by rfl) T.n_enumerate (pa_cons (pv 7) pa_nil)) (pgTK K 2 (by rfl) (pgs_cons (pg_name (i := 8) sc_take_leads.nd rfl (Or.inl rfl)) (pgs_cons (pgTK K 2 (by rfl) (pgs_cons (pg_name (i := 9) sc_take_leads.nd rfl (Or.inl rfl)) (pgs_cons (pg_name (i := 10) sc_take_leads.nd rfl (Or.inl rfl)) pgs_nil))) pgs_nil)))
 (pss_cons (ps_set (i := 11) sc_take_leads.nd rfl (Or.inl rfl) (pe_fc (ok_with_mark T) pass0 (hr.mono (by omega)) (pa_cons (pv 3) (pa_cons (pv 5) (pa_cons (pe_fc (ok_done_mark T) pass0 (hr.mono (by omega)) (pa_cons (pv 10) pa_nil)) pa_nil)))))
 (pss_one (ps_expr (pe_bm PySem.F.plainAttrs_list PySem.F.slot_list_append PySem.F.type_list_append mt_append (pv 4) (pa_cons (pe_tup (pa_cons (pe_tup (pa_cons (pv 5) (pa_cons (pv 8) pa_nil))) (pa_cons (pe_tup (pa_cons (pv 9) (pa_cons (pv 11) pa_nil))) pa_nil))) pa_nil))))))))
 pss_nil)))
 (pss_one (ps_ret (pv 4)))))), ?_⟩
  obtain ⟨p, o, s, f, cs, Z, v, n, ms, rfl, pb, zl, dv, pre, m8, k⟩ := h
  have hs : Hs K ⟨H, [], Z⟩ Z H [] [([v], [eS n ms])] := (Hs.start (fun _ z => by cases z) zl).fact1 dv
  have lm : (ms.map eM).length = ms.length := List.length_map _
  tm_at "go"
  rename_i x1 y1 x2 y2 hq1 H1 q H2 hs2
  clear hs hq1
  refine l_enT (ms.map eM) (fun i σ H' => ∃ (Z3 : List Addr) (u5 u6 u7 u8 u9 u10 u11 : Option V), σ = [some (.ref p), some v, some (.int n), some x2, some (.ref q), u5, u6, u7, u8, u9, u10, u11] ∧ Hs K ⟨H, [], Z⟩ Z3 H' [.dl K q ((leads cs n ms i).map eLd) true] [([x2], [.tuple (ms.map eM)])]) ?_ ?_ ?_ ?_
  · exact ⟨Z, none, none, none, none, none, none, none, rfl, by have e0 : (leads cs n ms 0).map eLd = [] := rfl; rw [e0]; tm_at "wk"⟩
  · rintro i σ H' hi ⟨Z3, u5, u6, u7, u8, u9, u10, u11, rfl, hs3⟩
    exact ⟨Z3, by tm_at "dt"⟩
  · rintro i d x σ H5 H6 hd kp hx ⟨Z3, u5, u6, u7, u8, u9, u10, u11, rfl, hs3⟩
    obtain ⟨mk, hmk, rfl⟩ := at_map hd
    have hi : i < ms.length := (List.getElem?_eq_some_iff.mp hmk).1
    have gm : ms.getD i .idle = mk := by rw [List.getD_eq_getElem?_getD, hmk]; rfl
    have dx := hx Z3 (by tm_at "dt")
    have hs4 := hs3.same kp
    have hs4 := hs4.fact1 dx
    clear hs3 dx hx hs2 H1
    tm_at "run"
    rotate_left
    · rename_i hs6 hb
      refine ⟨Z3, _, _, _, _, _, _, _, rfl, ?_⟩
      have el : leads cs n ms (i + 1) = leads cs n ms i := by
        rw [leads_succ]
        unfold leadA
        rw [gm]
        cases mk with
        | ask d a => cases hb
        | idle => exact List.append_nil _
        | done v => exact List.append_nil _
      rw [el]
      tm_at "wk"
    rename_i xs1 hq1 xm xs2 hq2 hs5 Hn hs6 hb
    obtain ⟨dn, a, rfl⟩ : ∃ d a, mk = .ask d a := by
      cases mk with
      | ask d a => exact ⟨d, a, rfl⟩
      | idle => cases hb
      | done v => cases hb
    clear hq1 hq2 hs5 hb hs4
    refine meth_pb (pb.kp0 hs6.kp) ?_
    tm_at "run"
    refine ⟨p, o, s, f, cs, dn, n, a, rfl, pb.kp0 hs6.kp, pre, fun q2 H7 k7 n7 dl7 => ?_⟩
    have eo : optA cs n (ms.getD i .idle) = optsK cs [.inr dn, .inl n, .inl a] := by rw [gm]; rfl
    generalize optsK cs [.inr dn, .inl n, .inl a] = os at dl7 eo
    obtain ⟨xs7, e7, d7⟩ := dl7
    have hs7 := hs6.newDl k7 n7 (ds := os.map ePr) ⟨xs7, e7, d7.zs (fun _ z => by cases z)⟩
    clear hs6
    tm_at "run"
    have lo : (os.map ePr).length = os.length := List.length_map _
    refine l_enL (os.map ePr) (fun j σ H' => ∃ (Z4 : List Addr) (u8 u9 u10 u11 : Option V), σ = [some (.ref p), some v, some (.int n), some x2, some (.ref q), some (.int (i : Nat)), some xm, some (.ref q2), u8, u9, u10, u11] ∧
      Hs K ⟨H, [], Z⟩ Z4 H' [.dl K q2 (os.map ePr) true, .dl K q ((leads cs n ms i ++ leadP ms i (os.take j)).map eLd) true] [([x2], [.tuple (ms.map eM)])]) ?_ ?_ ?_ ?_
    · refine ⟨Z3, _, _, _, _, rfl, ?_⟩
      have e0 : leads cs n ms i ++ leadP ms i (os.take 0) = leads cs n ms i := List.append_nil _
      rw [e0]
      tm_at "wk"
    · rintro j σ H' hj ⟨Z4, u8, u9, u10, u11, rfl, hs8⟩
      exact ⟨Z4, by tm_at "lr"⟩
    · rintro j d y σ H8 H9 hd9 kp9 hy ⟨Z4, u8, u9, u10, u11, rfl, hs8⟩
      obtain ⟨ob, hob, rfl⟩ := at_map hd9
      obtain ⟨b, r⟩ := ob
      have dy := hy Z4 (by tm_at "lr")
      have hs9 := (hs8.same kp9).fact1 dy
      have hj : j < os.length := (List.getElem?_eq_some_iff.mp hob).1
      clear hs8 dy hy hs7
      have ll : (ms.map eM).length = ms.length := List.length_map _
      have lL := leads_len cs n ms i pre.1
      have lp : ((leads cs n ms i ++ leadP ms i (os.take j)).map eLd).length = (leads cs n ms i).length + j := by
        rw [List.length_map, List.length_append, leadP_len, List.length_take]; omega
      have lo2 : os.length ≤ 200 := by
        have := optA_len cs n (ms.getD i .idle)
        rw [eo] at this
        have := pre.1
        omega
      tm_at "run"
      have e9 := ld_snoc (leads cs n ms i) ms i os j b r hob
      exact ⟨_, _, _, _, _, rfl, by rw [e9]; tm_at "wk"⟩
    · rintro σ H' ⟨Z4, u8, u9, u10, u11, rfl, hs8⟩
      rw [lo, List.take_length, ← eo] at hs8
      have el : leads cs n ms (i + 1) = leads cs n ms i ++ leadP ms i (optA cs n (ms.getD i .idle)) := leads_succ cs n ms i
      rw [← el] at hs8
      exact ⟨Z4, _, _, _, _, _, _, _, rfl, by tm_at "wk"⟩
  · rintro σ H' ⟨Z3, u5, u6, u7, u8, u9, u10, u11, rfl, hs3⟩
    rw [lm] at hs3
    tm_at "run"
    exact k q H' hs3.kp ⟨hs3.newP .here (by simp), Z3, fun z hz => (hs3.zn z hz).elim .inl fun y => y.elim (fun w => by cases w) .inr, hs3.zl, hs3.zd _ List.mem_cons_self q (by simp [Ent.dl]), hs3.dl .here⟩

end

open PySem PySem.Spec PyProof.Rows L2 U NdefX

/-! my own steps: rows of tactics, tried from above -/

/-! steps over Hs -/









theorem bt_log {i : Int} (h : Bt 1900 i) : i.natAbs.log2 < 1920 := by
  by_cases z : i.natAbs = 0
  · rw [z]; decide
  · exact Nat.lt_of_lt_of_le ((Nat.log2_lt z).mpr h) (by decide)
theorem iL_len {i : Int} (h : Bt 1900 i) : (Tx.iL i).length ≤ 601 := by
  have z : i.natAbs < 10 ^ 600 := Nat.lt_of_lt_of_le h (by decide +kernel)
  have q := TL.numL_len (by decide : 0 < 600) z
  unfold Tx.iL
  split
  · rw [List.length_cons]; omega
  · omega
/-! Stock -/
theorem lk_hit2 {k g : Str} {v w : V} {r : List (Str × V)} (h : k ≠ g) : List.lookup k ((g, w) :: (k, v) :: r) = some v := (lk_miss h).trans lk_hit
theorem ne_pc : (Str.ofString "plain") ≠ (Str.ofString "code") := by decide +kernel
def SkAt (K : PySem.W.Frag) (CS CP : Addr) (H : Hp) (p : Addr) (c : V) (pp o : Addr) (s f : Int) (cs : List Ch) : Prop := ∃ dx, H p = some (.ins CS dx [("code", c), ("plain", .ref pp)]) ∧ PB K CP H pp o s f cs
section
variable {K : PySem.W.Frag} {CS CP : Addr} {H H' : Hp} {p pp o : Addr} {c : V} {s f : Int} {cs : List Ch} {mg : Str → Option Value}
theorem SkAt.kp0 (k : Kp [] H H') (h : SkAt K CS CP H p c pp o s f cs) : SkAt K CS CP H' p c pp o s f cs := by
  obtain ⟨dx, h1, h2⟩ := h
  exact ⟨dx, k.get0 h1, h2.kp0 k⟩
theorem fld_plain (t : SkC K mg CS) (h : SkAt K CS CP H p c pp o s f cs) {Q : VK} (q : Q (.ref pp) H) : FldOf K "plain" (.ref p) H Q := by
  obtain ⟨dx, h1, h2⟩ := h
  exact fld_of t.cl t.n2 h1 (lk_hit2 ne_pc) q
theorem fld_code (t : SkC K mg CS) (h : SkAt K CS CP H p c pp o s f cs) {Q : VK} (q : Q c H) : FldOf K "code" (.ref p) H Q := by
  obtain ⟨dx, h1, h2⟩ := h
  exact fld_of t.cl t.n1 h1 lk_hit q
end
abbrev eTk (l : Ld) : PyData := .tuple [.int l.1.1, .int l.1.2]
def spTakes (K : PySem.W.Frag) (CS CP : Addr) : Sp := fun vs H Q _ => ∃ (p : Addr) (c : V) (pp o : Addr) (s f : Int) (cs : List Ch) (Z : List Addr) (v : V) (n : Int) (ms : List Mrk), vs = [.ref p, v] ∧ SkAt K CS CP H p c pp o s f cs ∧ (∀ z ∈ Z, ∃ o, H z = some o) ∧ Dt K Z H v (eS n ms) ∧ Sml 200 cs ∧ ms.length ≤ 8 ∧
  ∀ q H', Kp [] H H' → Rl K Z H H' q ((leads cs n ms ms.length).map eTk) → Q (.ref q) H'
def spTaken (K : PySem.W.Frag) (CS CP CM : Addr) : Sp := fun vs H Q E => ∃ (p : Addr) (c : V) (pp o : Addr) (s f : Int) (cs : List Ch) (Z : List Addr) (v : V) (n : Int) (ms : List Mrk) (i j : Int), vs = [.ref p, v, .int i, .int j] ∧ SkAt K CS CP H p c pp o s f cs ∧ (∀ z ∈ Z, ∃ o, H z = some o) ∧ Dt K Z H v (eS n ms) ∧ Sml 200 cs ∧ ms.length ≤ 8 ∧
  (∀ l ∈ leads cs n ms ms.length, ((l.1.1 : Nat) : Int) = i → ((l.1.2 : Nat) : Int) = j → ∀ v' H', Kp [] H H' → Rv K Z H H' v' (eS l.2.1 l.2.2) → Q v' H') ∧
  ((∀ l ∈ leads cs n ms ms.length, ¬ (((l.1.1 : Nat) : Int) = i ∧ ((l.1.2 : Nat) : Int) = j)) → ∀ d H', Kp [] H H' → H' d = some (.xd [("index", .int 0)]) → E (.ref CM) (some d) H')
theorem k_leads {K : PySem.W.Frag} {C p o : Addr} {s f : Int} {cs : List Ch} {v : V} {n : Int} {ms : List Mrk} {Bb : Bs} {Z : List Addr} {H : Hp} {L : List Ent} {M : List (List V × List PyData)} {Q : VK} {E : XK} (h : Hs K Bb Z H L M) (pb : PB K C H p o s f cs) (dv : Dt K Z H v (eS n ms)) (pre : Sml 200 cs) (m8 : ms.length ≤ 8)
    (k : RetL K Bb Z H L M Q ((leads cs n ms ms.length).map eLd)) : spLeads K C ([.ref p, v] ++ []) H Q E :=
  ⟨p, o, s, f, cs, Z, v, n, ms, rfl, pb, h.zl, dv, pre, m8, fun q H' kp rl => k q H' (h.same kp) rl h⟩
local macro_rules | `(tactic| tm_at "step") => `(tactic| first | (with_reducible refine' fld_plain (by assumption) ?k1 ?_; (case k1 => with_reducible assumption)) | fail)
def MkQ (C : Addr) (fld : Str) (vs : List V) (H : Hp) (Q : XK) : Prop := ∃ i : Int, vs = [.int i] ∧ i.natAbs < 1000000 ∧ ∀ (d : Addr) (H' : Hp), H d = none → Kp [] H H' → H' d = some (.xd [(fld, .int i)]) → Q (.ref C) (some d) H'
theorem u_mkx {C : Addr} {fld : Str} {ta : TA} {σ : L2.St} {H : Hp} {Q : XK} (h : ta σ H fun vs H1 => MkQ C fld vs H1 Q) : tMkX C fld ta σ H Q := h
theorem h_mkx {C : Addr} {fld : Str} {i : Int} {H : Hp} {Q : XK} (hi : i.natAbs < 1000000) (k : ∀ (d : Addr) (H' : Hp), Kp [] H H' → H' d = some (.xd [(fld, .int i)]) → Q (.ref C) (some d) H') : MkQ C fld [.int i] H Q := ⟨i, rfl, hi, fun d H' _ k1 e => k d H' k1 e⟩
local macro_rules | `(tactic| tm_at "step") => `(tactic| first | with_reducible refine u_mkx ?_ | fail)
theorem lit_len {s : String} {n : Nat} (h : s.toList.length ≤ n) : (Str.ofString s).length ≤ n := by
  have e : (Str.ofString s).length = (TL.tl (Str.ofString s)).length := by
    show (Str.ofString s).cps.size = _
    rw [← Array.length_toList]
  rw [e, TL.tl_ofString, List.length_map]
  exact h

section
variable {P : Program} {w : World} {K : PySem.W.Frag} {mg : Str → Option Value} {base : Heap} {CPlainBook CCodeBook CStock COddsError CBadShare CBadText CBadBook CBadMove CBadProgram CBadPlan CUnfit CTooLarge CBadEdit CCODE_FORMS CIDLE : Addr}
theorem ok_takes_of (T : Txt P w K mg CPlainBook CCodeBook CStock COddsError CBadShare CBadText CBadBook CBadMove CBadProgram CBadPlan CUnfit CTooLarge CBadEdit CCODE_FORMS CIDLE) : Fc P w K mg base CX0 3 "takes_of" ["stock", "state"] (spTakes K CStock CPlainBook) := by
  refine fc_of T.d_takes_of sc_takes_of (fun vs H Q E h => by obtain ⟨p, c, pp, o, s, f, cs, Z, v, n, ms, rfl, sk, zl, dv, pre, m8, k⟩ := h; rfl) (fun _ _ _ _ _ _ us hl => match us, hl with | [_, _], _ => rfl) fun f cdv A outer s H vs Q E hr h => ⟨_, (pss_one (ps_ret (pe_lc (own := [("take", 2), ("behind", 3)]) (g := (gTup K 2 (gCons (gName 2) (gCons (gName 3) gNil)))) (tt := tYes) rfl sc_takes_of.nd (piLK K (pe_fc (ok_take_leads T) pass0 (hr.mono (by omega)) (pa_cons (fldK K (pv 0) rfl) (pa_cons (pv 1) pa_nil)))) (blkOk_by (own := [("take", 2), ("behind", 3)]) (N := ["stock", "state", "take", "behind"]) (sc := defScope s_takes_of) (by decide +kernel)) (fun _ _ _ _ _ => (pgTK K 2 (by rfl) (pgs_cons (pg_name (i := 2) sc_takes_of.nd rfl (Or.inl rfl)) (pgs_cons (pg_name (i := 3) sc_takes_of.nd rfl (Or.inl rfl)) pgs_nil)))) (fun _ _ _ _ _ => pts_nil) (fun _ _ _ _ _ => (pv 2))))), ?_⟩
  obtain ⟨p, c, pp, o, s, f, cs, Z, v, n, ms, rfl, sk, zl, dv, pre, m8, k⟩ := h
  have hs : Hs K ⟨H, [], Z⟩ Z H [] [([v], [eS n ms])] := (Hs.start (fun _ z => by cases z) zl).fact1 dv
  have lL := leads_len cs n ms ms.length pre.1
  have lm : ((leads cs n ms ms.length).map eLd).length = (leads cs n ms ms.length).length := List.length_map _
  obtain ⟨_, _, pb⟩ := id sk
  tm_at "go"
  refine fld_plain T.sk sk ?_
  tm_at "run"
  refine k_leads hs pb dv pre m8 (retL fun q Z1 H1 zz hs1 => ?_)
  tm_at "run"
  refine h_lcL ((leads cs n ms ms.length).map eLd) (fun i acc => acc = ((leads cs n ms ms.length).take i).map eTk) hs1 (fun D acc Z' H' h => by tm_at "lr") rfl (fun D i2 d x2 acc Z3 H9 hd2 hr hacc hz hs9 => ?_) (fun D acc Z3 H9 hr hacc hz hs9 => ?_)
  · obtain ⟨l, he, rfl⟩ := at_map hd2
    have hi2 : i2 < 100000 := by have := (List.getElem?_eq_some_iff.mp he).1; omega
    tm_at "run"
    show _ = _
    rw [_root_.Fr.take_more he, map_snoc, hr]
  · rw [lm, List.take_length] at hr
    rw [hr] at hs9
    exact k D H9 hs9.kp ⟨hs9.newP .here (by simp), Z3, fun z hz => (hs9.zn z hz).elim .inl fun y => y.elim (fun w => by cases w) .inr, hs9.zl, hs9.zd _ List.mem_cons_self D (by simp [Ent.dl]), hs9.dl .here⟩
theorem ok_BadMove (T : Txt P w K mg CPlainBook CCodeBook CStock COddsError CBadShare CBadText CBadBook CBadMove CBadProgram CBadPlan CUnfit CTooLarge CBadEdit CCODE_FORMS CIDLE) : NcEx P w K mg base CBadMove "index" := by
  obtain ⟨f, fd, F⟩ := T.sup_BadMove
  refine ⟨f, fd, ["self", "index"], F.T, F.ini, F.ty, fn_sup (x := "index") F (nscope_by (by decide +kernel)) rfl rfl rfl rfl rfl rfl (fun cc cda A outer s H E => pe_join (.cons pe_str (.cons (pe_fmt (pv 1)) (.cons pe_str .nil)))) ?_ (fun _ => rfl) (fun _ => rfl) (fun _ => rfl) (fun _ _ _ => rfl) (fun _ => rfl), ?_⟩
  · intro a i H Q hi k
    have c0 : (Str.ofString "the move with index ").length ≤ 20 := lit_len (by decide)
    have c1 : (Str.ofString " is not possible").length ≤ 60 := lit_len (by decide)
    have c2 : Str.empty.length = 0 := rfl
    have hb : Bt 1900 i := Nat.lt_trans hi (by decide +kernel)
    have c3 : (Str.ofString (toString i)).length ≤ 601 := by rw [Tx.str_int, SX.S_len]; exact iL_len hb
    tm_at "run"
    refine fmtI (bt_log hb) ?_
    tm_at "run"
    exact k _
  · obtain ⟨oc, od, kV, doc, pm, an, cda, cc, ct, osl, ccl, cdd, fs, ccs, cl, cld, csl, file, tf, rfl, _⟩ := F.ex
    exact .all fun us hl => match us, hl with | [_, _], _ => rfl
theorem ok_taken (T : Txt P w K mg CPlainBook CCodeBook CStock COddsError CBadShare CBadText CBadBook CBadMove CBadProgram CBadPlan CUnfit CTooLarge CBadEdit CCODE_FORMS CIDLE) : Fc P w K mg base (L2.CX P w) 4 "taken" ["stock", "state", "port", "choice"] (spTaken K CStock CPlainBook CBadMove) := by
  refine fc_ofX T.d_taken sc_taken (fun vs H Q E h => by obtain ⟨p, c, pp, o, s, f, cs, Z, v, n, ms, i, j, rfl, _⟩ := h; rfl) (fun _ _ _ _ _ _ us hl => match us, hl with | [_, _, _, _], _ => rfl) fun f cdv A outer s0 H vs Q E hr h => ⟨_, (pss_cons (ps_for (passes_of rfl) rfl (piLK K (pe_fc (ok_take_leads T) pass0 (hr.mono (by omega)) (pa_cons (fldK K (pv 0) rfl) (pa_cons (pv 1) pa_nil)))) (pgTK K 2 (by rfl) (pgs_cons (pg_name (i := 4) sc_taken.nd rfl (Or.inl rfl)) (pgs_cons (pg_name (i := 5) sc_taken.nd rfl (Or.inl rfl)) pgs_nil)))
 (PSs.nox (pss_one (ps_if (pt_cmpR (eqAK K hr.units) (pv 4) (pe_tup (pa_cons (pv 2) (pa_cons (pv 3) pa_nil))) (nomark _))
 (pss_one (ps_ret (pv 5)))
 pss_nil))))
 (pss_one (ps_raise rfl (takes_of rfl rfl rfl rfl) (pmk_ex (ok_BadMove T) (hr.mono (by omega)) T.e_BadMove.g (pa_cons pe_int pa_nil))))), ?_⟩
  obtain ⟨p, c, pp, o, s, f, cs, Z, v, n, ms, i, j, rfl, sk, zl, dv, pre, m8, yes, no⟩ := h
  have hs : Hs K ⟨H, [], Z⟩ Z H [] [([v], [eS n ms])] := (Hs.start (fun _ z => by cases z) zl).fact1 dv
  have lL := leads_len cs n ms ms.length pre.1
  have lm : ((leads cs n ms ms.length).map eLd).length = (leads cs n ms ms.length).length := List.length_map _
  obtain ⟨_, _, pb⟩ := id sk
  tm_at "go"
  refine fld_plain T.sk sk ?_
  tm_at "run"
  refine k_leads hs pb dv pre m8 (retL fun q Z1 H1 zz hs1 => ?_)
  tm_at "run"
  refine l_dl ((leads cs n ms ms.length).map eLd) (fun m σ H' => ∃ (Z3 : List Addr) (u4 u5 : Option V), σ = [some (.ref p), some v, some (.int i), some (.int j), u4, u5] ∧ (∀ l ∈ (leads cs n ms ms.length).take m, ¬ (((l.1.1 : Nat) : Int) = i ∧ ((l.1.2 : Nat) : Int) = j)) ∧ Hs K ⟨H, [], Z⟩ Z3 H' [.dl K q ((leads cs n ms ms.length).map eLd) true] []) ?_ ?_ ?_ ?_
  · exact ⟨Z1, none, none, rfl, fun l hl => (by simp at hl), by tm_at "wk"⟩
  · rintro m σ H' hm ⟨Z3, u4, u5, rfl, all, hs3⟩
    exact ⟨Z3, by tm_at "lr"⟩
  · rintro m d x σ H5 hd hx ⟨Z3, u4, u5, rfl, all, hs3⟩
    obtain ⟨l, hl, rfl⟩ := at_map hd
    have lin : l ∈ leads cs n ms ms.length := List.mem_of_getElem? hl
    have dx := hx Z3 (by tm_at "lr")
    have hs4 := hs3.fact1 dx
    clear hs3 dx hx
    have ev : PyData.eqv (.tuple [.int (l.1.1 : Nat), .int (l.1.2 : Nat)]) (.tuple [.int i, .int j]) = decide (((l.1.1 : Nat) : Int) = i ∧ ((l.1.2 : Nat) : Int) = j) := by
      simp [PyData.eqv, PyData.eqvAll]
      rfl
    tm_at "run"
    · rename_i hb
      obtain ⟨e1, e2⟩ := of_decide_eq_true (ev.symm.trans hb)
      tm_at "finv"
      exact yes l lin e1 e2
    · rename_i hb
      refine ⟨Z3, _, _, rfl, fun l2 hl2 => ?_, by tm_at "wk"⟩
      rw [_root_.Fr.take_more hl] at hl2
      rcases List.mem_append.mp hl2 with y | y
      · exact all l2 y
      · rw [List.mem_singleton.mp y]
        exact of_decide_eq_false (ev.symm.trans hb)
  · rintro σ H' ⟨Z3, u4, u5, rfl, all, hs3⟩
    rw [lm, List.take_length] at all
    tm_at "run"
    refine h_mkx (by decide) fun d H9 k9 e9 => no all d H9 (hs3.kp.trans k9) e9

end


/-! my own steps: rows of tactics, tried from above -/

/-! steps over Hs -/










/-! the law's dict of the options -/
structure GrpG (cs : List Ch) (g : List (List Key × List PyData)) : Prop where
  nd : ∀ (i j : Nat) (x y : List Key × List PyData), g[i]? = some x → g[j]? = some y → x.1 = y.1 → i = j
  v : ∀ (i : Nat) (x : List Key × List PyData), g[i]? = some x → x.2 = (optsK cs x.1).map ePr ∧ optsK cs x.1 ≠ []
  c : ∀ k, optsK cs k ≠ [] → ∃ (i : Nat) (x : List Key × List PyData), g[i]? = some x ∧ x.1 = k
  l : g.length ≤ cs.length
theorem GrpG.nil : GrpG [] [] := ⟨fun i j x y h => (by cases h), fun i x h => (by cases h), fun k h => absurd rfl h, Nat.le_refl _⟩
theorem opts_self (cs : List Ch) (c : Ch) : optsK (cs ++ [c]) (keyOf c) = optsK cs (keyOf c) ++ [(c.t, c.r)] := by rw [optsK_snoc, if_pos rfl]
theorem opts_other {cs : List Ch} {c : Ch} {k : List Key} (h : keyOf c ≠ k) : optsK (cs ++ [c]) k = optsK cs k := by rw [optsK_snoc, if_neg h, List.append_nil]
theorem GrpG.old {cs : List Ch} {g : List (List Key × List PyData)} {c : Ch} {i : Nat} {ds : List PyData} (G : GrpG cs g) (e : g[i]? = some (keyOf c, ds)) : GrpG (cs ++ [c]) (g.set i (keyOf c, ds ++ [ePr (c.t, c.r)])) := by
  have hi := (List.getElem?_eq_some_iff.mp e).1
  have at_ : ∀ (j : Nat) x, (g.set i (keyOf c, ds ++ [ePr (c.t, c.r)]))[j]? = some x → (j = i ∧ x = (keyOf c, ds ++ [ePr (c.t, c.r)])) ∨ (j ≠ i ∧ g[j]? = some x) := fun j x h => by
    rw [List.getElem?_set] at h
    by_cases z : i = j
    · rw [if_pos z, if_pos hi] at h
      exact .inl ⟨z.symm, (Option.some.inj h).symm⟩
    · rw [if_neg z] at h
      exact .inr ⟨fun y => z y.symm, h⟩
  have key : ∀ (j : Nat) x, (g.set i (keyOf c, ds ++ [ePr (c.t, c.r)]))[j]? = some x → ∃ y, g[j]? = some y ∧ y.1 = x.1 := fun j x h => by
    rcases at_ j x h with ⟨rfl, rfl⟩ | ⟨_, h⟩
    · exact ⟨_, e, rfl⟩
    · exact ⟨x, h, rfl⟩
  refine ⟨fun a b x y ha hb q => ?_, fun j x h => ?_, fun k h => ?_, ?_⟩
  · obtain ⟨x', hx, ex⟩ := key a x ha
    obtain ⟨y', hy, ey⟩ := key b y hb
    exact G.nd a b x' y' hx hy (ex.trans (q.trans ey.symm))
  · rcases at_ j x h with ⟨rfl, rfl⟩ | ⟨n, h⟩
    · refine ⟨?_, ?_⟩
      · show ds ++ _ = (optsK (cs ++ [c]) (keyOf c)).map ePr
        rw [opts_self, List.map_append, ← (G.v j _ e).1]
        rfl
      · show optsK (cs ++ [c]) (keyOf c) ≠ []
        rw [opts_self]
        simp
    · have nk : keyOf c ≠ x.1 := fun z => n (G.nd j i x _ h e z.symm)
      rw [opts_other nk]
      exact G.v j x h
  · by_cases z : keyOf c = k
    · subst z
      exact ⟨i, _, by rw [List.getElem?_set, if_pos rfl, if_pos hi], rfl⟩
    · rw [opts_other z] at h
      obtain ⟨j, x, hx, ex⟩ := G.c k h
      have n : i ≠ j := fun y => by
        rw [← y, e] at hx
        cases hx
        exact z ex
      exact ⟨j, x, by rw [List.getElem?_set, if_neg n]; exact hx, ex⟩
  · rw [List.length_set, List.length_append]
    have := G.l
    omega
theorem GrpG.new {cs : List Ch} {g : List (List Key × List PyData)} {c : Ch} (G : GrpG cs g) (n : ∀ x ∈ g, x.1 ≠ keyOf c) : GrpG (cs ++ [c]) ((g ++ [(keyOf c, [])]).set g.length (keyOf c, [] ++ [ePr (c.t, c.r)])) := by
  have e0 : (g ++ [(keyOf c, ([] : List PyData))]).set g.length (keyOf c, [] ++ [ePr (c.t, c.r)]) = g ++ [(keyOf c, [ePr (c.t, c.r)])] := by
    rw [List.set_append_right _ _ (Nat.le_refl _), Nat.sub_self]
    rfl
  rw [e0]
  have no : optsK cs (keyOf c) = [] := Classical.byContradiction fun z => by
    obtain ⟨i, x, hx, ex⟩ := G.c _ z
    exact n x (List.mem_of_getElem? hx) ex
  have at_ : ∀ (j : Nat) x, (g ++ [(keyOf c, [ePr (c.t, c.r)])])[j]? = some x → g[j]? = some x ∨ (j = g.length ∧ x = (keyOf c, [ePr (c.t, c.r)])) := fun j x h => by
    by_cases z : j < g.length
    · rw [List.getElem?_append_left z] at h
      exact .inl h
    · rw [List.getElem?_append_right (by omega)] at h
      have jl := (List.getElem?_eq_some_iff.mp h).1
      have jl : j - g.length < 1 := jl
      have ej : j - g.length = 0 := by omega
      rw [ej] at h
      exact .inr ⟨by omega, (Option.some.inj h).symm⟩
  refine ⟨fun a b x y ha hb q => ?_, fun j x h => ?_, fun k h => ?_, ?_⟩
  · rcases at_ a x ha with h1 | ⟨e1, rfl⟩
    · rcases at_ b y hb with h2 | ⟨e2, rfl⟩
      · exact G.nd a b x y h1 h2 q
      · exact absurd q (n x (List.mem_of_getElem? h1))
    · rcases at_ b y hb with h2 | ⟨e2, rfl⟩
      · exact absurd q.symm (n y (List.mem_of_getElem? h2))
      · omega
  · rcases at_ j x h with h | ⟨_, rfl⟩
    · have nk : keyOf c ≠ x.1 := fun z => n x (List.mem_of_getElem? h) z.symm
      rw [opts_other nk]
      exact G.v j x h
    · show [ePr (c.t, c.r)] = (optsK (cs ++ [c]) (keyOf c)).map ePr ∧ optsK (cs ++ [c]) (keyOf c) ≠ []
      rw [opts_self, no]
      exact ⟨rfl, by simp⟩
  · by_cases z : keyOf c = k
    · subst z
      exact ⟨g.length, _, by rw [List.getElem?_append_right (Nat.le_refl _), Nat.sub_self]; rfl, rfl⟩
    · rw [opts_other z] at h
      obtain ⟨j, x, hx, ex⟩ := G.c k h
      exact ⟨j, x, by rw [List.getElem?_append_left (List.getElem?_eq_some_iff.mp hx).1]; exact hx, ex⟩
  · rw [List.length_append, List.length_append]
    have := G.l
    simp
    omega
/-- the frozen dict of the options -/
structure GrpL (cs : List Ch) (s : List (List Key × PyData)) : Prop where
  none : ∀ k, valD s k = none → optsK cs k = []
  some : ∀ k d, valD s k = some d → d = .list ((optsK cs k).map ePr)
theorem valD_find {κ : Type} [DecidableEq κ] : ∀ {s : List (κ × PyData)} {k : κ} {d : PyData}, valD s k = some d → ∃ i : Nat, s[i]? = some (k, d)
  | [], _, _, h => by cases h
  | (k', d') :: s, k, d, h => by
    rw [valD_cons] at h
    by_cases e : k' = k
    · rw [if_pos e] at h
      cases h
      exact ⟨0, by rw [← e]; rfl⟩
    · rw [if_neg e] at h
      obtain ⟨i, hi⟩ := valD_find h
      exact ⟨i + 1, hi⟩
theorem valD_lost {κ : Type} [DecidableEq κ] : ∀ {s : List (κ × PyData)} {k : κ}, valD s k = none → ∀ (i : Nat) (x : κ × PyData), s[i]? = some x → x.1 ≠ k
  | [], _, _, i, x, h => by cases h
  | (k', d') :: s, k, h, i, x, hx => by
    rw [valD_cons] at h
    by_cases e : k' = k
    · rw [if_pos e] at h; cases h
    · rw [if_neg e] at h
      cases i with
      | zero =>
        cases hx
        exact e
      | succ i => exact valD_lost h i x hx
theorem GrpG.frozen {cs : List Ch} {g : List (List Key × List PyData)} (G : GrpG cs g) : GrpL cs (g.map fun x => (x.1, PyData.list x.2)) where
  none := fun k h => Classical.byContradiction fun z => by
    obtain ⟨i, x, hx, ex⟩ := G.c k z
    exact valD_lost h i (x.1, .list x.2) (by rw [List.getElem?_map, hx]; rfl) ex
  some := fun k d h => by
    obtain ⟨i, hi⟩ := valD_find h
    rw [List.getElem?_map] at hi
    cases e : g[i]? with
    | none => rw [e] at hi; cases hi
    | some x =>
      rw [e] at hi
      obtain ⟨rfl, rfl⟩ : x.1 = k ∧ PyData.list x.2 = d := by
        have := Option.some.inj hi
        exact ⟨congrArg Prod.fst this, congrArg Prod.snd this⟩
      rw [(G.v i x e).1]
/-! a plain book of the law -/
def PlAt (K : PySem.W.Frag) (v : V) (t f : Int) (cs : List Ch) (Z : List Addr) (H : Hp) : Prop := ∃ (p : Addr) (c : V) (o : Addr) (s : List (List Key × PyData)), v = .ref p ∧ H p = some (.tup [.int t, .int f, c, .ref o]) ∧ Dt K Z H c (.tuple (cs.map eCh)) ∧ Fz K o s Z H ∧ GrpL cs s
theorem pl_stay {K : PySem.W.Frag} {v : V} {t f : Int} {cs : List Ch} : Stay (PlAt K v t f cs) where
  im := fun Z H H' ⟨p, c, o, s, e, h1, h2, h3, h4⟩ i => ⟨p, c, o, s, e, i.1 _ _ h1, h2.im i, fz_stay.im _ _ _ h3 i, h4⟩
  zs := fun Z Z' H i ⟨p, c, o, s, e, h1, h2, h3, h4⟩ => ⟨p, c, o, s, e, h1, h2.zs i, fz_stay.zs _ _ _ i h3, h4⟩
def spPlain (K : PySem.W.Frag) : Sp := fun vs H Q _ => ∃ (Z : List Addr) (t f : Int) (v : V) (cs : List Ch), vs = [.int t, .int f, v] ∧ (∀ z ∈ Z, ∃ o, H z = some o) ∧ Dt K Z H v (.list (cs.map eCh)) ∧ Sml 200 cs ∧
  ∀ (Zr : List Addr) x H', Kp [] H H' → (∀ z ∈ Zr, z ∈ Z ∨ H z = none) → (∀ z ∈ Zr, ∃ o, H' z = some o) → PlAt K x t f cs Zr H' → Q x H'
theorem u_setd {td ty tx : TE} {σ : L2.St} {H : Hp} {Q : VK} (h : td σ H fun x H1 => DgA x H1 fun a => ty σ H1 fun y H2 => tx σ H2 fun z H3 => DsT a y z H3 Q) : tDSetT td ty tx σ H Q := h
local macro_rules | `(tactic| tm_at "step") => `(tactic| first | (with_reducible refine u_setd ?_) | (with_reducible refine' h_gdA ?k1 ?k2 ?_; (case k1 => with_reducible assumption); (case k2 => tm_at "loc")) | fail)
section
variable {K : PySem.W.Frag} {B : Bs} {H : Hp} {Z : List Addr} {L : List Ent} {M : List (List V × List PyData)} {F : Ent → List Ent} {o : Addr}
theorem h_toGd (h : Hs K B Z H L M) (l : Loc L (.dd K o [] true) F) : Hs K B Z H (F (.gd K o [] [])) M := by
  obtain ⟨r, e, d⟩ := (h.get l : DDt K Z H o [])
  cases d
  exact h.put (N := []) (e' := .gd K o [] []) l rfl .refl (fun a ha => by cases ha) (fun a ha => by cases ha) (fun a ha => by cases ha) ⟨by simp, [], e, .nil⟩ fun a ha => .inl ha
end
theorem optsK_le (cs : List Ch) (k : List Key) : (optsK cs k).length ≤ cs.length := by
  unfold optsK
  rw [List.length_map]
  exact List.length_filter_le _ _
theorem h_gdl {K : PySem.W.Frag} {B : Bs} {H : Hp} {Z : List Addr} {L : List Ent} {M : List (List V × List PyData)} {F : Ent → List Ent} {o l : Addr} {ls : List Addr} {g : List (List Key × List PyData)} {i : Nat} {k : List Key} {ds : List PyData} (h : Hs K B Z H L M) (c : Loc L (.gd K o ls g) F) (e : g[i]? = some (k, ds)) (el : ls[i]? = some l) : ∃ xs, H l = some (.lst xs) := by
  obtain ⟨_, r, _, f⟩ := (h.get c : Gd K Z H o ls g)
  obtain ⟨xs, ex, _⟩ := f.at_ e el
  exact ⟨xs, ex⟩

section
variable {P : Program} {w : World} {K : PySem.W.Frag} {mg : Str → Option Value} {base : Heap} {CPlainBook CCodeBook CStock COddsError CBadShare CBadText CBadBook CBadMove CBadProgram CBadPlan CUnfit CTooLarge CBadEdit CCODE_FORMS CIDLE : Addr}
theorem ok_l_plain (T : Txt P w K mg CPlainBook CCodeBook CStock COddsError CBadShare CBadText CBadBook CBadMove CBadProgram CBadPlan CUnfit CTooLarge CBadEdit CCODE_FORMS CIDLE) : Fc P w K mg base CX0 1 "_law_plain" ["states", "first", "choices"] (spPlain K) := by
  refine fc_of T.d_l_plain sc_l_plain (fun vs H Q E h => by obtain ⟨Z, t, f, v, cs, rfl, zl, dv, pre, k⟩ := h; rfl) (fun _ _ _ _ _ _ us hl => match us, hl with | [_, _, _], _ => rfl) fun f cdv A outer s H vs Q E hr h => ⟨_, (pss_cons (ps_set (i := 3) sc_l_plain.nd rfl (Or.inl rfl) pe_dnewT)
 (pss_cons (ps_for PassesOwn.never rfl (piLK K (pv 2)) (pg_name (i := 4) sc_l_plain.nd rfl (Or.inl rfl))
 (pss_cons (ps_set (i := 5) sc_l_plain.nd rfl (Or.inl rfl) (pe_dsetT (hu_of hr) (pv 3) (pe_tup (pa_cons (pe_ix (ixtK K) (pv 4) pe_int (fun _ _ => rfl)) (pa_cons (pe_ix (ixtK K) (pv 4) pe_int (fun _ _ => rfl)) (pa_cons (pe_ix (ixtK K) (pv 4) pe_int (fun _ _ => rfl)) pa_nil)))) (pe_lst pa_nil) ⟨rfl, rfl, rfl, rfl⟩))
 (pss_one (ps_expr (pe_bm PySem.F.plainAttrs_list PySem.F.slot_list_append PySem.F.type_list_append mt_append (pv 5) (pa_cons (pe_tup (pa_cons (pe_ix (ixtK K) (pv 4) pe_int (fun _ _ => rfl)) (pa_cons (pe_ix (ixtK K) (pv 4) pe_int (fun _ _ => rfl)) pa_nil))) pa_nil))))))
 (pss_one (ps_ret (pe_tup (pa_cons (pv 0) (pa_cons (pv 1) (pa_cons (pe_callTy (tupK K) (by rfl) T.n_tuple b_tuple (pa_cons (pv 2) pa_nil)) (pa_cons (pv 3) pa_nil))))))))), ?_⟩
  obtain ⟨Z, t, f, v, cs, rfl, zl, dv, pre, k⟩ := h
  have hs : Hs K ⟨H, [], Z⟩ Z H [] [([v], [.list (cs.map eCh)])] := (Hs.start (fun _ z => by cases z) zl).fact1 dv
  have lc : (cs.map eCh).length = cs.length := List.length_map _
  have hcl := pre.1
  tm_at "go"
  rename_i o H1 hs0
  have hs1 := h_toGd hs0 .here
  clear hs hs0
  refine l_dl (cs.map eCh) (fun i σ H' => ∃ (Z3 ls : List Addr) (g : List (List Key × List PyData)) (u4 u5 : Option V), σ = [some (.int t), some (.int f), some v, some (.ref o), u4, u5] ∧ GrpG (cs.take i) g ∧ Hs K ⟨H, [], Z⟩ Z3 H' [.gd K o ls g] [([v], [.list (cs.map eCh)])]) ?_ ?_ ?_ ?_
  · exact ⟨Z, [], [], none, none, rfl, GrpG.nil, hs1⟩
  · rintro i σ H' hi ⟨Z3, ls, g, u4, u5, rfl, G, hs2⟩
    exact ⟨Z3, by tm_at "lr"⟩
  · rintro i d x σ H5 hd hx ⟨Z3, ls, g, u4, u5, rfl, G, hs2⟩
    obtain ⟨c, hc, rfl⟩ := at_map hd
    have dx := hx Z3 (by tm_at "lr")
    have hs3 := hs2.fact1 dx
    have lg : g.length ≤ 200 := by have := G.l; rw [List.length_take] at this; omega
    clear hs2 dx hx
    tm_at "run"
    rename_i pk Hk hsk pn Hn hsn
    have ck : cs.take (i + 1) = cs.take i ++ [c] := _root_.Fr.take_more hc
    refine h_gset (keyOf c) hsn .here (show Dt K Z3 _ _ (.tuple [.str c.nm, .int c.h, .int c.a]) from by tm_at "dt") (by omega) (fun j l ds e el _ hs4 => ?_) (fun n H6 hs4 => ?_)
    · have dl : ds.length ≤ 200 := by
        have e2 : ds = (optsK (cs.take i) (keyOf c)).map ePr := (G.v j _ e).1
        rw [e2, List.length_map]
        have := optsK_le (cs.take i) (keyOf c)
        rw [List.length_take] at this
        omega
      clear hsk hsn hs3
      tm_at "run"
      obtain ⟨xl, hxl⟩ := h_gdl hs4 .here e el
      refine bm_list hxl ?_
      tm_at "run"
      rename_i pq Hq hsq
      refine h_gapp hsq .here e el (show Dt K Z3 Hq (.ref pq) (ePr (c.t, c.r)) from by tm_at "dt") (by omega) fun H9 hs9 => ?_
      have G2 := G.old e
      rw [← ck] at G2
      exact ⟨Z3, ls, _, _, _, rfl, G2, by tm_at "wk"⟩
    · have e : (g ++ [(keyOf c, ([] : List PyData))])[g.length]? = some (keyOf c, []) := by rw [List.getElem?_append_right (Nat.le_refl _), Nat.sub_self]; rfl
      have el : (ls ++ [pn])[g.length]? = some pn := by
        obtain ⟨_, r9, _, fm⟩ := (hs4.get .here : Gd K Z3 _ o (ls ++ [pn]) (g ++ [(keyOf c, [])]))
        have ll := fm.length.2
        rw [List.length_append, List.length_append] at ll
        have ll : ls.length + 1 = g.length + 1 := ll
        have : g.length = ls.length := by omega
        rw [this, List.getElem?_append_right (Nat.le_refl _), Nat.sub_self]; rfl
      clear hsk hsn hs3
      tm_at "run"
      obtain ⟨xl, hxl⟩ := h_gdl hs4 .here e el
      refine bm_list hxl ?_
      tm_at "run"
      rename_i pq Hq hsq
      refine h_gapp hsq .here e el (show Dt K Z3 Hq (.ref pq) (ePr (c.t, c.r)) from by tm_at "dt") (by decide) fun H9 hs9 => ?_
      have G2 := G.new n
      rw [← ck] at G2
      exact ⟨Z3, _, _, _, _, rfl, G2, by tm_at "wk"⟩
  · rintro σ H' ⟨Z3, ls, g, u4, u5, rfl, G, hs2⟩
    rw [lc, List.take_length] at G
    tm_at "run"
    rename_i pc Hc hsc p Hp hsp
    clear hsc hs2
    have hs3 := h_gfz hsp (by tm_at "rem")
    have fz : Fz K o (g.map fun x => (x.1, PyData.list x.2)) ((o :: ls) ++ Z3) Hp := hs3.get (by tm_at "loc")
    refine k ((o :: ls) ++ Z3) _ _ hs3.kp (fun z hz => (hs3.zn z hz).elim .inl fun y => y.elim (fun w => by cases w) .inr) hs3.zl ⟨p, .ref pc, o, _, rfl, ?_, by tm_at "dt", fz, G.frozen⟩
    exact hsp.obj .here


end


/-! my own steps: rows of tactics, tried from above -/

/-! steps over Hs -/










/-! reading the law's book -/
def TupF (p : Addr) (xs : List V) (_ : List Addr) (H : Hp) : Prop := H p = some (.tup xs)
theorem tf_stay {p : Addr} {xs : List V} : Stay (TupF p xs) := ⟨fun _ _ _ h i => i.1 _ _ h, fun _ _ _ _ h => h⟩
theorem h_ixTf {K : PySem.W.Frag} {B : Bs} {H : Hp} {Z : List Addr} {L : List Ent} {M : List (List V × List PyData)} {F : Ent → List Ent} {p : Addr} {xs : List V} {i : Int} {w : V} {Q : VK} (h : Hs K B Z H L M) (l : Loc L (.fa (TupF p xs) tf_stay) F) (e : atI xs i = some w) (k : Q w H) : rIxT K (.ref p) (.int i) H Q :=
  ⟨p, xs, i, w, rfl, rfl, TupAt.sq (h.get l : TupF p xs Z H), e, k⟩
def spLOpt (K : PySem.W.Frag) : Sp := fun vs H Q _ => ∃ (Z : List Addr) (t f : Int) (cs : List Ch) (x : V) (d : Str) (n a : Int), vs = [x, .str d, .int n, .int a] ∧ (∀ z ∈ Z, ∃ o, H z = some o) ∧ PlAt K x t f cs Z H ∧ Sml 200 cs ∧
  ∀ v H', Kp [] H H' → Rv K Z H H' v (.list ((optsK cs [.inr d, .inl n, .inl a]).map ePr)) → Q v H'
local macro_rules | `(tactic| tm_at "step") => `(tactic| first | (with_reducible refine' h_ixTf ?k1 ?k2 ?k3 ?_; (case k1 => with_reducible assumption); (case k2 => tm_at "loc"); (case k3 => k_dflt rfl)) | (with_reducible refine' h_fzA ?k1 ?k2 ?_; (case k1 => with_reducible assumption); (case k2 => tm_at "loc")) | fail)

section
variable {P : Program} {w : World} {K : PySem.W.Frag} {mg : Str → Option Value} {base : Heap} {CPlainBook CCodeBook CStock COddsError CBadShare CBadText CBadBook CBadMove CBadProgram CBadPlan CUnfit CTooLarge CBadEdit CCODE_FORMS CIDLE : Addr}
theorem ok_l_options (T : Txt P w K mg CPlainBook CCodeBook CStock COddsError CBadShare CBadText CBadBook CBadMove CBadProgram CBadPlan CUnfit CTooLarge CBadEdit CCODE_FORMS CIDLE) : Fc P w K mg base CX0 1 "_law_options" ["plain", "deed", "number", "argument"] (spLOpt K) := by
  refine fc_of T.d_l_options sc_l_options (fun vs H Q E h => by obtain ⟨Z, t, f, cs, x, d, n, a, rfl, zl, ⟨p, c, o, s, rfl, hp, dc, fz, gl⟩, pre, k⟩ := h; rfl) (fun _ _ _ _ _ _ us hl => match us, hl with | [_, _, _, _], _ => rfl) fun f cdv A outer s H vs Q E hr h => ⟨_, (pss_one (ps_ret (pe_dget2 (hu_of hr) (pe_ix (ixtK K) (pv 0) pe_int (fun _ _ => rfl)) (pe_tup (pa_cons (pv 1) (pa_cons (pv 2) (pa_cons (pv 3) pa_nil)))) (pe_lst pa_nil) ⟨rfl, rfl, rfl, rfl⟩))), ?_⟩
  obtain ⟨Z, t, f, cs, x, d, n, a, rfl, zl, ⟨p, c, o, s, rfl, hp, dc, fz, gl⟩, pre, k⟩ := h
  have hs : Hs K ⟨H, [], Z⟩ Z H [.fa (Fz K o s) fz_stay, .fa (TupF p [.int t, .int f, c, .ref o]) tf_stay] [([c], [.tuple (cs.map eCh)])] :=
    (((Hs.start (fun _ z => by cases z) zl).fa (Φ := TupF p [.int t, .int f, c, .ref o]) tf_stay hp).fa fz_stay fz).fact1 dc
  tm_at "go"
  rename_i pk Hk hsk pn Hn hsn
  clear hs hsk
  have fz2 : Fz K o s Z Hn := hsn.get (.there .here)
  refine fz_get [.inr d, .inl n, .inl a] fz2 (show Dt K Z Hn (.ref pk) (.tuple [.str d, .int n, .int a]) from by tm_at "dt") (fun e => ?_) (fun y dd e q => ?_)
  · rw [gl.none _ e] at k
    have hsf := hsn.freeze .here
    exact fin_v hsf (show Dt K (pn :: Z) Hn (.ref pn) (.list []) from by tm_at "dt") k
  · have ed := gl.some _ _ e
    subst ed
    exact fin_v hsn q k


end


/-! my own steps: rows of tactics, tried from above -/

/-! steps over Hs -/










/-! the law's takes -/
def spLTakes (K : PySem.W.Frag) : Sp := fun vs H Q _ => ∃ (Z : List Addr) (t f : Int) (cs : List Ch) (x v : V) (n : Int) (ms : List Mrk), vs = [x, v] ∧ (∀ z ∈ Z, ∃ o, H z = some o) ∧ PlAt K x t f cs Z H ∧ Dt K Z H v (eS n ms) ∧ Sml 200 cs ∧ ms.length ≤ 8 ∧
  ∀ q H', Kp [] H H' → Rl K Z H H' q ((leads cs n ms ms.length).map eTk) → Q (.ref q) H'
theorem k_lopt {K : PySem.W.Frag} {B : Bs} {H : Hp} {Z : List Addr} {L : List Ent} {M : List (List V × List PyData)} {F : Ent → List Ent} {x : V} {t f : Int} {cs : List Ch} {d : Str} {n a : Int} {Q : VK} {E : XK} (h : Hs K B Z H L M) (l : Loc L (.fa (PlAt K x t f cs) pl_stay) F) (pre : Sml 200 cs)
    (k : RetG K B Z H L M Q (.list ((optsK cs [.inr d, .inl n, .inl a]).map ePr))) : spLOpt K ([x, .str d, .int n, .int a] ++ []) H Q E :=
  ⟨Z, t, f, cs, x, d, n, a, rfl, h.zl, h.get l, pre, fun v H' kp rv => k v H' (h.same kp) rv h⟩
local macro_rules | `(tactic| tm_at "step") => `(tactic| first | (with_reducible refine' k_lopt ?k1 ?k2 ?k3 ?_; (case k1 => with_reducible assumption); (case k2 => tm_at "loc"); (case k3 => with_reducible assumption)) | fail)
theorem tk_leadP (ms : List Mrk) (p : Nat) (os : List (Int × Int)) : (leadP ms p os).map eTk = (List.range os.length).map fun c => PyData.tuple [.int (p : Nat), .int (c : Nat)] := by
  unfold leadP
  apply List.ext_getElem?
  intro j
  rw [List.map_map, List.getElem?_map, List.getElem?_zipIdx, List.getElem?_map]
  by_cases h : j < os.length
  · rw [List.getElem?_range h, List.getElem?_eq_getElem h]
    simp [eTk]
  · rw [List.getElem?_eq_none (by omega), List.getElem?_eq_none (by rw [List.length_range]; omega)]
    rfl
theorem tk_same {cs : List Ch} {n : Int} {ms : List Mrk} {i : Nat} (h : optA cs n (ms.getD i .idle) = []) : leads cs n ms (i + 1) = leads cs n ms i := by
  rw [leads_succ]
  unfold leadA
  rw [h]
  exact List.append_nil _

section
variable {P : Program} {w : World} {K : PySem.W.Frag} {mg : Str → Option Value} {base : Heap} {CPlainBook CCodeBook CStock COddsError CBadShare CBadText CBadBook CBadMove CBadProgram CBadPlan CUnfit CTooLarge CBadEdit CCODE_FORMS CIDLE : Addr}
theorem ok_l_takes (T : Txt P w K mg CPlainBook CCodeBook CStock COddsError CBadShare CBadText CBadBook CBadMove CBadProgram CBadPlan CUnfit CTooLarge CBadEdit CCODE_FORMS CIDLE) : Fc P w K mg base CX0 2 "_law_takes" ["plain", "s"] (spLTakes K) := by
  refine fc_of T.d_l_takes sc_l_takes (fun vs H Q E h => by obtain ⟨Z, t, f, cs, x, v, n, ms, rfl, zl, pl, dv, pre, m8, k⟩ := h; rfl) (fun _ _ _ _ _ _ us hl => match us, hl with | [_, _], _ => rfl) fun f cdv A outer s H vs Q E hr h => ⟨_, (pss_cons (ps_set (i := 2) sc_l_takes.nd rfl (Or.inl rfl) (pe_lst pa_nil))
 (pss_cons (ps_for PassesOwn.never rfl (pi_range1 (by rfl) T.n_range (pa_cons (pe_callB (lenK K) (by rfl) T.n_len b_len (pa_cons (pe_ix (ixtK K) (pv 1) pe_int (fun _ _ => rfl)) pa_nil)) pa_nil)) (pg_name (i := 3) sc_l_takes.nd rfl (Or.inr rfl))
 (pss_cons (ps_set (i := 4) sc_l_takes.nd rfl (Or.inl rfl) (pe_ix (ixtK K) (pe_ix (ixtK K) (pv 1) pe_int (fun _ _ => rfl)) (pv 3) (fun _ _ => rfl)))
 (pss_one (ps_if (pt_cmpR op_eq (pe_callB (lenK K) (by rfl) T.n_len b_len (pa_cons (pv 4) pa_nil)) pe_int (nomark _))
 (pss_one (ps_set (i := 2) sc_l_takes.nd rfl (Or.inl rfl) (pe_op o_catL (pv 2) (pe_lc (own := [("c", 5)]) (g := (gName 5)) (tt := tYes) rfl sc_l_takes.nd (pi_range1 (by rfl) T.n_range (pa_cons (pe_callB (lenK K) (by rfl) T.n_len b_len (pa_cons (pe_fc (ok_l_options T) pass0 (hr.mono (by omega)) (pa_cons (pv 0) (pa_cons (pe_ix (ixtK K) (pv 4) pe_int (fun _ _ => rfl)) (pa_cons (pe_ix (ixtK K) (pv 1) pe_int (fun _ _ => rfl)) (pa_cons (pe_ix (ixtK K) (pv 4) pe_int (fun _ _ => rfl)) pa_nil))))) pa_nil)) pa_nil)) (blkOk_by (own := [("c", 5)]) (N := ["plain", "s", "found", "p", "mark", "c"]) (sc := defScope s_l_takes) (by decide +kernel)) (fun _ _ _ _ _ => (pg_name (i := 5) sc_l_takes.nd rfl (Or.inl rfl))) (fun _ _ _ _ _ => pts_nil) (fun _ _ _ _ _ => (pe_tup (pa_cons (pv 3) (pa_cons (pv 5) pa_nil))))))))
 pss_nil))))
 (pss_one (ps_ret (pv 2))))), ?_⟩
  obtain ⟨Z, t, f, cs, x, v, n, ms, rfl, zl, pl, dv, pre, m8, k⟩ := h
  have hs : Hs K ⟨H, [], Z⟩ Z H [.fa (PlAt K x t f cs) pl_stay] [([v], [eS n ms])] := ((Hs.start (fun _ z => by cases z) zl).fa pl_stay pl).fact1 dv
  have lm : (ms.map eM).length = ms.length := List.length_map _
  tm_at "go"
  rename_i q0 H0 hs0 x1 hd1 hs1
  clear hs hs0 hd1
  refine l_range (fun i σ H' => ∃ (Z3 : List Addr) (q : Addr) (u3 u4 u5 : Option V), σ = [some x, some v, some (.ref q), u3, u4, u5] ∧ Hs K ⟨H, [], Z⟩ Z3 H' [.dl K q ((leads cs n ms i).map eTk) true, .fa (PlAt K x t f cs) pl_stay] [([v], [eS n ms])]) ?_ ?_ ?_
  · exact ⟨Z, q0, none, none, none, rfl, by have e0 : (leads cs n ms 0).map eTk = [] := rfl; rw [e0]; tm_at "wk"⟩
  · rintro i σ H5 hi ⟨Z3, q, u3, u4, u5, rfl, hs3⟩
    have hi : i < ms.length := by omega
    obtain ⟨mk, hmk⟩ : ∃ mk, ms[i]? = some mk := ⟨_, List.getElem?_eq_getElem hi⟩
    have gm : ms.getD i .idle = mk := by rw [List.getD_eq_getElem?_getD, hmk]; rfl
    have ea : atI (ms.map eM) ((i : Nat) : Int) = some (eM mk) := by
      refine atI_nat ?_
      rw [List.getElem?_map, hmk]
      rfl
    clear hs1
    rw [Int.zero_add]
    have lL := leads_len cs n ms i pre.1
    have lt : ((leads cs n ms i).map eTk).length = (leads cs n ms i).length := List.length_map _
    cases mk with
    | idle =>
      have el := tk_same (cs := cs) (n := n) (ms := ms) (i := i) (by rw [gm]; rfl)
      tm_at "run"
      · rename_i hc
        exact absurd hc (by decide)
      · exact ⟨Z3, q, _, _, _, rfl, by rw [el]; tm_at "wk"⟩
    | done r =>
      have el := tk_same (cs := cs) (n := n) (ms := ms) (i := i) (by rw [gm]; rfl)
      tm_at "run"
      · rename_i hc
        exact absurd (show (2 : Int) = 3 from hc) (by decide)
      · exact ⟨Z3, q, _, _, _, rfl, by rw [el]; tm_at "wk"⟩
    | ask d a =>
      have lo := optsK_le cs [.inr d, .inl n, .inl a]
      have lq : ((optsK cs [.inr d, .inl n, .inl a]).map ePr).length = (optsK cs [.inr d, .inl n, .inl a]).length := List.length_map _
      have hcl := pre.1
      tm_at "run"
      rotate_left
      · rename_i hc
        exact absurd (show (3 : Int) = 3 from rfl) hc
      rename_i xm hdm hsm hcm vo Z4 H6 hz4 hs4
      clear hsm hs3 hdm
      have eo : optA cs n (ms.getD i .idle) = optsK cs [.inr d, .inl n, .inl a] := by rw [gm]; rfl
      have el : (leads cs n ms (i + 1)).map eTk = (leads cs n ms i).map eTk ++ (List.range (optsK cs [.inr d, .inl n, .inl a]).length).map fun c => PyData.tuple [.int (i : Nat), .int (c : Nat)] := by
        rw [leads_succ, List.map_append]
        congr 1
        show (leadP ms i (optA cs n (ms.getD i .idle))).map eTk = _
        rw [tk_leadP, eo]
      generalize optsK cs [.inr d, .inl n, .inl a] = os at el lo lq hs4 eo ⊢
      have en : (((os.map ePr).length : Nat) : Int).toNat = os.length := by omega
      refine h_lcR (fun j acc => acc = (List.range j).map fun c => PyData.tuple [.int (i : Nat), .int (c : Nat)]) hs4 rfl (fun D i2 acc Z5 H9 hi2 hr hacc hz hs9 => ?_) (fun D acc Z5 H9 hr hacc hz hs9 => ?_)
      · have hi3 : i2 < 100000 := by omega
        rw [Int.zero_add]
        tm_at "run"
        show _ = _
        rw [List.range_succ, List.map_append, hr]
        rfl
      · rw [en] at hr hacc
        rw [hr] at hs9
        have l1 : ((List.range os.length).map fun c => PyData.tuple [.int (i : Nat), .int (c : Nat)]).length = os.length := by rw [List.length_map, List.length_range]
        tm_at "run"
        rename_i pn Hn hsn
        exact ⟨Z5, pn, _, _, _, rfl, by rw [el]; tm_at "wk"⟩
  · rintro σ H5 ⟨Z3, q, u3, u4, u5, rfl, hs3⟩
    have e1 : (((ms.map eM).length : Nat) : Int).toNat = ms.length := by omega
    rw [e1] at hs3
    tm_at "run"
    exact k q H5 hs3.kp ⟨hs3.newP .here (by simp), Z3, fun z hz => (hs3.zn z hz).elim .inl fun y => y.elim (fun w => by cases w) .inr, hs3.zl, hs3.zd _ List.mem_cons_self q (by simp [Ent.dl]), hs3.dl .here⟩


end


/-! my own steps: rows of tactics, tried from above -/

/-! steps over Hs -/










def spLTaken (K : PySem.W.Frag) : Sp := fun vs H Q _ => ∃ (Z : List Addr) (t f : Int) (cs : List Ch) (x v : V) (n : Int) (ms : List Mrk) (p c : Nat) (d : Str) (a b r : Int), vs = [x, v, .int (p : Nat), .int (c : Nat)] ∧ (∀ z ∈ Z, ∃ o, H z = some o) ∧ PlAt K x t f cs Z H ∧ Dt K Z H v (eS n ms) ∧ Sml 200 cs ∧ ms.length ≤ 8 ∧ ms[p]? = some (.ask d a) ∧ (optsK cs [.inr d, .inl n, .inl a])[c]? = some (b, r) ∧
  ∀ v' H', Kp [] H H' → Rv K Z H H' v' (eS b (ms.set p (.done r))) → Q v' H'

section
variable {P : Program} {w : World} {K : PySem.W.Frag} {mg : Str → Option Value} {base : Heap} {CPlainBook CCodeBook CStock COddsError CBadShare CBadText CBadBook CBadMove CBadProgram CBadPlan CUnfit CTooLarge CBadEdit CCODE_FORMS CIDLE : Addr}
theorem ok_l_taken (T : Txt P w K mg CPlainBook CCodeBook CStock COddsError CBadShare CBadText CBadBook CBadMove CBadProgram CBadPlan CUnfit CTooLarge CBadEdit CCODE_FORMS CIDLE) : Fc P w K mg base CX0 2 "_law_taken" ["plain", "s", "p", "c"] (spLTaken K) := by
  refine fc_of T.d_l_taken sc_l_taken (fun vs H Q E h => by obtain ⟨Z, t, f, cs, x, v, n, ms, p, c, d, a, b, r, rfl, zl, pl, dv, pre, m8, hm, ho, k⟩ := h; rfl) (fun _ _ _ _ _ _ us hl => match us, hl with | [_, _, _, _], _ => rfl) fun f cdv A outer s H vs Q E hr h => ⟨_, (pss_cons (ps_set (i := 4) sc_l_taken.nd rfl (Or.inl rfl) (pe_ix (ixtK K) (pe_ix (ixtK K) (pv 1) pe_int (fun _ _ => rfl)) (pv 2) (fun _ _ => rfl)))
 (pss_cons (ps_set (i := 5) sc_l_taken.nd rfl (Or.inl rfl) (pe_ix (ixlK K) (pe_fc (ok_l_options T) pass0 (hr.mono (by omega)) (pa_cons (pv 0) (pa_cons (pe_ix (ixtK K) (pv 4) pe_int (fun _ _ => rfl)) (pa_cons (pe_ix (ixtK K) (pv 1) pe_int (fun _ _ => rfl)) (pa_cons (pe_ix (ixtK K) (pv 4) pe_int (fun _ _ => rfl)) pa_nil))))) (pv 3) (fun _ _ => rfl)))
 (pss_one (ps_ret (pe_tup (pa_cons (pe_ix (ixtK K) (pv 5) pe_int (fun _ _ => rfl)) (pa_cons (pe_op (catAK K) (pe_op (catAK K) (pe_slice (sltAK K) (pe_ix (ixtK K) (pv 1) pe_int (fun _ _ => rfl)) po_none (po_some (pv 2))) (pe_tup (pa_cons (pe_tup (pa_cons pe_int (pa_cons (pe_ix (ixtK K) (pv 5) pe_int (fun _ _ => rfl)) pa_nil))) pa_nil))) (pe_slice (sltAK K) (pe_ix (ixtK K) (pv 1) pe_int (fun _ _ => rfl)) (po_some (pe_op op_add (pv 2) pe_int)) po_none)) pa_nil))))))), ?_⟩
  obtain ⟨Z, t, f, cs, x, v, n, ms, p, c, d, a, b, r, rfl, zl, pl, dv, pre, m8, hm, ho, k⟩ := h
  have hs : Hs K ⟨H, [], Z⟩ Z H [.fa (PlAt K x t f cs) pl_stay] [([v], [eS n ms])] := ((Hs.start (fun _ z => by cases z) zl).fa pl_stay pl).fact1 dv
  have lm : (ms.map eM).length = ms.length := List.length_map _
  have hp : p < ms.length := (List.getElem?_eq_some_iff.mp hm).1
  have ea : atI (ms.map eM) ((p : Nat) : Int) = some (eM (.ask d a)) := by
    refine atI_nat ?_
    rw [List.getElem?_map, hm]
    rfl
  have eb : atI ((optsK cs [.inr d, .inl n, .inl a]).map ePr) ((c : Nat) : Int) = some (ePr (b, r)) := by
    refine atI_nat ?_
    rw [List.getElem?_map, ho]
    rfl
  have l1 := U.cut_len (ms.map eM) none (some (p : Nat))
  have l2 := U.cut_len (ms.map eM) (some ((p : Nat) + 1)) none
  have es := with_set (ms.map eM) p (.tuple [.int 1, .int r]) (by omega)
  tm_at "go"
  tm_at "finv"
  have e2 : (ms.map eM).set p (.tuple [.int 1, .int r]) = (ms.set p (.done r)).map eM := by rw [List.map_set]
  rw [es, e2]
  exact k


end


/-! my own steps: rows of tactics, tried from above -/

/-! steps over Hs -/











/-! things: a deed and an argument -/
abbrev eTh (x : Str × Int) : PyData := .tuple [.str x.1, .int x.2]
def thg (zs : List Str) (a b : Int) : List (Str × Int) := (zs.map fun z => (z, a)) ++ if b = a then [] else zs.map fun z => (z, b)
abbrev S_l_things : List PyData → (List PyData → Prop) → Prop := fun ds φ => ∃ (zs : List Str), ∃ (m : Int), ds = [.list (zs.map PyData.str), .int m] ∧ ((2 ≤ m ∧ m ≤ 8) ∧ zs.length ≤ 3) ∧ (∀ (a b : Int), ((0 ≤ a ∧ a < m) ∧ (0 ≤ b ∧ b < m)) → φ ((thg zs a b).map eTh))
theorem sp_l_things {φ : List PyData → Prop} {zs : List Str} {m : Int} (p_ : (2 ≤ m ∧ m ≤ 8) ∧ zs.length ≤ 3) (k_ : ∀ (a b : Int), ((0 ≤ a ∧ a < m) ∧ (0 ≤ b ∧ b < m)) → φ ((thg zs a b).map eTh)) : S_l_things [.list (zs.map PyData.str), .int m] φ := ⟨zs, m, rfl, p_, k_⟩
local macro_rules | `(tactic| tm_at "step") => `(tactic| first | (with_reducible refine' sp_l_things ?k1 ?_; (case k1 => tm_at "pre"); intro a_ b_ hr_) | fail)

section
variable {P : Program} {w : World} {K : PySem.W.Frag} {mg : Str → Option Value} {base : Heap} {CPlainBook CCodeBook CStock COddsError CBadShare CBadText CBadBook CBadMove CBadProgram CBadPlan CUnfit CTooLarge CBadEdit CCODE_FORMS CIDLE : Addr}
theorem ok_l_things (T : Txt P w K mg CPlainBook CCodeBook CStock COddsError CBadShare CBadText CBadBook CBadMove CBadProgram CBadPlan CUnfit CTooLarge CBadEdit CCODE_FORMS CIDLE) : Fc P w K mg base CX0 2 "_law_things" ["pool", "names", "modulus"] (spWL K S_l_things) := by
  refine fc_of T.d_l_things sc_l_things (fun vs H Q E h => by obtain ⟨a, us, Z, ds, rfl, hp, na, zl, q, zs, m, rfl, pre, k⟩ := h; have := q.length; rw [List.length_cons, this]; rfl) (fun _ _ _ _ _ _ us hl => match us, hl with | [_, _, _], _ => rfl) fun f cdv A outer s H vs Q E hr h => ⟨_, (pss_cons (ps_set (i := 3) sc_l_things.nd rfl (Or.inr rfl) (pe_lst (pa_cons (pe_fc (ok_l_draw T) pass0 (hr.mono (by omega)) (pa_cons (pv 0) (pa_cons (pv 2) pa_nil))) (pa_cons (pe_fc (ok_l_draw T) pass0 (hr.mono (by omega)) (pa_cons (pv 0) (pa_cons (pv 2) pa_nil))) pa_nil))))
 (pss_cons (ps_setLc (i := 4) (own := [("name", 5)]) (g := (gName 5)) (tt := tYes) rfl sc_l_things.nd rfl rfl (sw_true rfl rfl rfl (by decide +kernel)) (piLK K (pv 1)) (blkOk_by (own := [("name", 5)]) (N := ["pool", "names", "modulus", "numbers", "things", "name"]) (sc := defScope s_l_things) (by decide +kernel)) (fun _ _ _ _ _ => (pg_name (i := 5) sc_l_things.nd rfl (Or.inl rfl))) (fun _ _ _ _ _ => pts_nil) (fun _ _ _ _ _ => (pe_tup (pa_cons (pv 5) (pa_cons (pe_ix (ixlK K) (pv 3) pe_int (fun _ _ => rfl)) pa_nil)))))
 (pss_cons (ps_if (pt_cmpR op_ne (pe_ix (ixlK K) (pv 3) pe_int (fun _ _ => rfl)) (pe_ix (ixlK K) (pv 3) pe_int (fun _ _ => rfl)) (nomark _))
 (pss_one (ps_expr (pe_bm PySem.F.plainAttrs_list PySem.F.slot_list_extend PySem.F.type_list_extend mt_extend (pv 4) (pa_cons (pe_lc (own := [("name", 5)]) (g := (gName 5)) (tt := tYes) rfl sc_l_things.nd (piLK K (pv 1)) (blkOk_by (own := [("name", 5)]) (N := ["pool", "names", "modulus", "numbers", "things", "name"]) (sc := defScope s_l_things) (by decide +kernel)) (fun _ _ _ _ _ => (pg_name (i := 5) sc_l_things.nd rfl (Or.inl rfl))) (fun _ _ _ _ _ => pts_nil) (fun _ _ _ _ _ => (pe_tup (pa_cons (pv 5) (pa_cons (pe_ix (ixlK K) (pv 3) pe_int (fun _ _ => rfl)) pa_nil))))) pa_nil))))
 pss_nil)
 (pss_one (ps_ret (pv 4)))))), ?_⟩
  obtain ⟨a, us, Z, ds, rfl, hp, na, zl, q, zs, m, rfl, pre, k⟩ := h
  have hs := in_w hp na zl q
  obtain ⟨v0, _, e_, h2⟩ := hs.arg; clear hs; subst e_; have hs := h2; clear h2
  obtain ⟨_, e_, h2⟩ := hs.argI; clear hs; subst e_; have hs := h2; clear h2
  obtain ⟨e_, h2⟩ := hs.argN; clear hs; subst e_; have hs := h2; clear h2
  obtain ⟨⟨m1, m2⟩, z3⟩ := pre
  have lz : (zs.map PyData.str).length = zs.length := List.length_map _
  tm_at "go"
  rename_i na Ha a0 a1 hsa nb Hb b0 b1 hsb pn Hn hsn
  clear hsa hsb
  have a2 : 0 ≤ na ∧ na < m := ⟨a0, by omega⟩
  have b2 : 0 ≤ nb ∧ nb < m := ⟨b0, by omega⟩
  refine h_lcL (zs.map PyData.str) (fun i acc => acc = ((zs.take i).map fun z => (z, na)).map eTh) hsn (fun D acc Z' H' h => by tm_at "lr") rfl (fun D i2 d x2 acc Z3 H9 hd2 hr hacc hz hs9 => ?_) (fun D acc Z3 H9 hr hacc hz hs9 => ?_)
  · obtain ⟨z, he, rfl⟩ := at_map hd2
    have hi2 : i2 < 100000 := by have := (List.getElem?_eq_some_iff.mp he).1; omega
    tm_at "run"
    show _ = _
    rw [_root_.Fr.take_more he, List.map_append, List.map_append, hr]
    rfl
  · rw [lz, List.take_length] at hr
    rw [hr] at hs9
    have lD : (((zs.map fun z => (z, na)) : List (Str × Int)).map eTh).length = zs.length := by rw [List.length_map, List.length_map]
    clear hsn
    tm_at "run"
    · rename_i hc
      have e9 : thg zs na nb = zs.map fun z => (z, na) := by unfold thg; rw [if_pos hc, List.append_nil]
      have kk := k na nb ⟨a2, b2⟩
      rw [e9] at kk
      exact fin_wl hs9 .here (.there (.there .here)) kk
    · rename_i hc
      have e9 : (thg zs na nb).map eTh = ((zs.map fun z => (z, na)) : List (Str × Int)).map eTh ++ ((zs.map fun z => (z, nb)) : List (Str × Int)).map eTh := by unfold thg; rw [if_neg hc, List.map_append]
      have kk := k na nb ⟨a2, b2⟩
      rw [e9] at kk
      refine h_lcL (zs.map PyData.str) (fun i acc => acc = ((zs.take i).map fun z => (z, nb)).map eTh) hs9 (fun D acc Z' H' h => by tm_at "lr") rfl (fun D2 i2 d x2 acc2 Z5 H8 hd2 hr2 hacc2 hz2 hs8 => ?_) (fun D2 acc2 Z5 H8 hr2 hacc2 hz2 hs8 => ?_)
      · obtain ⟨z, he, rfl⟩ := at_map hd2
        have hi2 : i2 < 100000 := by have := (List.getElem?_eq_some_iff.mp he).1; omega
        tm_at "run"
        show _ = _
        rw [_root_.Fr.take_more he, List.map_append, List.map_append, hr2]
        rfl
      · rw [lz, List.take_length] at hr2
        rw [hr2] at hs8
        have lD2 : (((zs.map fun z => (z, nb)) : List (Str × Int)).map eTh).length = zs.length := by rw [List.length_map, List.length_map]
        clear hs9
        tm_at "run"
        rename_i Hn hsn
        exact fin_wl hsn (.there .here) (.there (.there (.there .here))) kk


end



/-! my own steps: rows of tactics, tried from above -/

/-! steps over Hs -/











/-! copies of menus -/
abbrev S_copied_menu : List PyData → (PyData → Prop) → Prop := fun ds φ => ∃ (ts : List (Str × Int)), ds = [.list (ts.map eTh)] ∧ (ts.length ≤ 40) ∧ (φ (.tuple (ts.map eTh)))
theorem sp_copied_menu {φ : PyData → Prop} {ts : List (Str × Int)} (p_ : ts.length ≤ 40) (k_ : φ (.tuple (ts.map eTh))) : S_copied_menu [.list (ts.map eTh)] φ := ⟨ts, rfl, p_, k_⟩
local macro_rules | `(tactic| tm_at "step") => `(tactic| first | (with_reducible refine' sp_copied_menu ?k1 ?_; (case k1 => tm_at "pre")) | fail)
abbrev eLn : PyData := .tuple [.tuple [.str "answer", .int 0], .bool false]
abbrev S_copied_lines : List PyData → (PyData → Prop) → Prop := fun ds φ => ds = [.list [eLn]] ∧ (φ (.tuple [eLn]))
theorem sp_copied_lines {φ : PyData → Prop}  (k_ : φ (.tuple [eLn])) : S_copied_lines [.list [eLn]] φ := ⟨rfl, k_⟩
local macro_rules | `(tactic| tm_at "step") => `(tactic| first | (with_reducible refine sp_copied_lines ?_) | fail)

section
variable {P : Program} {w : World} {K : PySem.W.Frag} {mg : Str → Option Value} {base : Heap} {CPlainBook CCodeBook CStock COddsError CBadShare CBadText CBadBook CBadMove CBadProgram CBadPlan CUnfit CTooLarge CBadEdit CCODE_FORMS CIDLE : Addr}
theorem ok_copied_menu (T : Txt P w K mg CPlainBook CCodeBook CStock COddsError CBadShare CBadText CBadBook CBadMove CBadProgram CBadPlan CUnfit CTooLarge CBadEdit CCODE_FORMS CIDLE) : Fc P w K mg base CX0 1 "copied_menu" ["menu"] (spV K S_copied_menu) := by
  refine fc_of T.d_copied_menu sc_copied_menu (fun vs H Q E h => by obtain ⟨Z, ds, zl, q, ts, rfl, pre, k⟩ := h; have := q.length; rw [this]; rfl) (fun _ _ _ _ _ _ us hl => match us, hl with | [_], _ => rfl) fun f cdv A outer s H vs Q E hr h => ⟨_, (pss_one (ps_ret (pe_callTy (tupK K) (by rfl) T.n_tuple b_tuple (pa_cons (pe_lc (own := [("deed", 1), ("argument", 2)]) (g := (gTup K 2 (gCons (gName 1) (gCons (gName 2) gNil)))) (tt := tYes) rfl sc_copied_menu.nd (piLK K (pv 0)) (blkOk_by (own := [("deed", 1), ("argument", 2)]) (N := ["menu", "deed", "argument"]) (sc := defScope s_copied_menu) (by decide +kernel)) (fun _ _ _ _ _ => (pgTK K 2 (by rfl) (pgs_cons (pg_name (i := 1) sc_copied_menu.nd rfl (Or.inl rfl)) (pgs_cons (pg_name (i := 2) sc_copied_menu.nd rfl (Or.inl rfl)) pgs_nil)))) (fun _ _ _ _ _ => pts_nil) (fun _ _ _ _ _ => (pe_tup (pa_cons (pv 1) (pa_cons (pv 2) pa_nil))))) pa_nil)))), ?_⟩
  obtain ⟨Z, ds, zl, q, ts, rfl, pre, k⟩ := h
  have hs := in_v zl q
  obtain ⟨v0, _, e_, h2⟩ := hs.arg; clear hs; subst e_; have hs := h2; clear h2
  obtain ⟨e_, h2⟩ := hs.argN; clear hs; subst e_; have hs := h2; clear h2
  have lt : (ts.map eTh).length = ts.length := List.length_map _
  tm_at "go"
  refine h_lcL (ts.map eTh) (fun i acc => acc = (ts.take i).map eTh) hs (fun D acc Z' H' h => by tm_at "lr") rfl (fun D i2 d x2 acc Z3 H9 hd2 hr hacc hz hs9 => ?_) (fun D acc Z3 H9 hr hacc hz hs9 => ?_)
  · obtain ⟨y, he, rfl⟩ := at_map hd2
    have hi2 : i2 < 100000 := by have := (List.getElem?_eq_some_iff.mp he).1; omega
    tm_at "run"
    show _ = _
    rw [_root_.Fr.take_more he, List.map_append, hr]
    rfl
  · rw [lt, List.take_length] at hr
    rw [hr] at hs9
    tm_at "run"
    tm_at "finv"
    exact k
theorem ok_copied_lines (T : Txt P w K mg CPlainBook CCodeBook CStock COddsError CBadShare CBadText CBadBook CBadMove CBadProgram CBadPlan CUnfit CTooLarge CBadEdit CCODE_FORMS CIDLE) : Fc P w K mg base CX0 1 "copied_lines" ["lines"] (spV K S_copied_lines) := by
  refine fc_of T.d_copied_lines sc_copied_lines (fun vs H Q E h => by obtain ⟨Z, ds, zl, q, rfl, k⟩ := h; have := q.length; rw [this]; rfl) (fun _ _ _ _ _ _ us hl => match us, hl with | [_], _ => rfl) fun f cdv A outer s H vs Q E hr h => ⟨_, (pss_one (ps_ret (pe_callTy (tupK K) (by rfl) T.n_tuple b_tuple (pa_cons (pe_lc (own := [("instruction", 1), ("fused", 2)]) (g := (gTup K 2 (gCons (gName 1) (gCons (gName 2) gNil)))) (tt := tYes) rfl sc_copied_lines.nd (piLK K (pv 0)) (blkOk_by (own := [("instruction", 1), ("fused", 2)]) (N := ["lines", "instruction", "fused"]) (sc := defScope s_copied_lines) (by decide +kernel)) (fun _ _ _ _ _ => (pgTK K 2 (by rfl) (pgs_cons (pg_name (i := 1) sc_copied_lines.nd rfl (Or.inl rfl)) (pgs_cons (pg_name (i := 2) sc_copied_lines.nd rfl (Or.inl rfl)) pgs_nil)))) (fun _ _ _ _ _ => pts_nil) (fun _ _ _ _ _ => (pe_tup (pa_cons (pe_callTy (tupK K) (by rfl) T.n_tuple b_tuple (pa_cons (pv 1) pa_nil)) (pa_cons (pv 2) pa_nil))))) pa_nil)))), ?_⟩
  obtain ⟨Z, ds, zl, q, rfl, k⟩ := h
  have hs := in_v zl q
  obtain ⟨v0, _, e_, h2⟩ := hs.arg; clear hs; subst e_; have hs := h2; clear h2
  obtain ⟨e_, h2⟩ := hs.argN; clear hs; subst e_; have hs := h2; clear h2
  tm_at "go"
  refine h_lcL [eLn] (fun i acc => acc = [eLn].take i) hs (fun D acc Z' H' h => by tm_at "lr") rfl (fun D i2 d x2 acc Z3 H9 hd2 hr hacc hz hs9 => ?_) (fun D acc Z3 H9 hr hacc hz hs9 => ?_)
  · have hi2 : i2 < 1 := (List.getElem?_eq_some_iff.mp hd2).1
    have e0 : i2 = 0 := by omega
    subst e0
    obtain rfl : eLn = d := Option.some.inj hd2
    tm_at "run"
    have hr : acc = [] := hr
    show _ = _
    rw [hr]
    rfl
  · have hr : acc = [eLn] := hr
    rw [hr] at hs9
    tm_at "run"
    tm_at "finv"
    exact k


end



/-! my own steps: rows of tactics, tried from above -/

/-! steps over Hs -/











/-! the code book's checks, for what is good -/
abbrev S_check_number : List PyData → (PyData → Prop) → Prop := fun ds φ => ∃ (n l m : Int), ∃ (z : Str), ds = [.int n, .int l, .int m, .str z] ∧ (l ≤ n ∧ n ≤ m) ∧ (φ (.none))
theorem sp_check_number {φ : PyData → Prop} {n l m : Int} {z : Str} (p_ : l ≤ n ∧ n ≤ m) (k_ : φ (.none)) : S_check_number [.int n, .int l, .int m, .str z] φ := ⟨n, l, m, z, rfl, p_, k_⟩
local macro_rules | `(tactic| tm_at "step") => `(tactic| first | (with_reducible refine' sp_check_number ?k1 ?_; (case k1 => tm_at "pre")) | fail)
abbrev S_check_names : List PyData → (PyData → Prop) → Prop := fun ds φ => ∃ (zs : List Str), ∃ (z : Str), ds = [.list (zs.map PyData.str), .str z] ∧ (zs.length ≤ 24 ∧ (∀ x ∈ zs, isName x = true ∧ x.length ≤ 20) ∧ zs.Nodup) ∧ (φ (.none))
theorem sp_check_names {φ : PyData → Prop} {zs : List Str} {z : Str} (p_ : zs.length ≤ 24 ∧ (∀ x ∈ zs, isName x = true ∧ x.length ≤ 20) ∧ zs.Nodup) (k_ : φ (.none)) : S_check_names [.list (zs.map PyData.str), .str z] φ := ⟨zs, z, rfl, p_, k_⟩
local macro_rules | `(tactic| tm_at "step") => `(tactic| first | (with_reducible refine' sp_check_names ?k1 ?_; (case k1 => tm_at "pre")) | fail)
local macro_rules | `(tactic| tm_at "step") => `(tactic| first | (with_reducible refine ret_non ?_; intro H_ hs_) | fail)
theorem dts_strs {K : PySem.W.Frag} {Z : List Addr} {H : Hp} : ∀ {zs : List Str} {xs : List V}, Dts K Z H xs (zs.map PyData.str) → xs = zs.map V.str
  | [], _, h => by cases h; rfl
  | z :: zs, _, h => by
    cases h with
    | cons h1 h2 => rw [Dt.str_inv h1, dts_strs h2]; rfl
theorem u_lenSet {K : PySem.W.Frag} {ta : TE} {σ : L2.St} {H : Hp} {Q : VK} (h : ta σ H fun x H1 => N17.rLenSet K x H1 Q) : N17.tLenSet K ta σ H Q := h
theorem h_lenSetS {K : PySem.W.Frag} {Z : List Addr} {H : Hp} {v : V} {zs : List Str} {Q : VK} (m : DLv K Z H v (zs.map PyData.str)) (few : zs.length ≤ 1000) (nd : zs.Nodup) (k : Q (.int zs.length) H) : N17.rLenSet K v H Q := by
  obtain ⟨p, rfl, l⟩ := m
  obtain ⟨xs, sq, d⟩ := l.sq
  rw [dts_strs d] at sq
  exact ⟨p, rfl, .inl ⟨zs, .inl sq, few, fun c hc => by rw [hc.uniq (.nodup nd)]; exact k⟩⟩
local macro_rules | `(tactic| tm_at "step") => `(tactic| first | with_reducible refine u_lenSet ?_ | fail)

section
variable {P : Program} {w : World} {K : PySem.W.Frag} {mg : Str → Option Value} {base : Heap} {CPlainBook CCodeBook CStock COddsError CBadShare CBadText CBadBook CBadMove CBadProgram CBadPlan CUnfit CTooLarge CBadEdit CCODE_FORMS CIDLE : Addr}
theorem ok_check_number (T : Txt P w K mg CPlainBook CCodeBook CStock COddsError CBadShare CBadText CBadBook CBadMove CBadProgram CBadPlan CUnfit CTooLarge CBadEdit CCODE_FORMS CIDLE) : Fc P w K mg base CX0 1 "check_number" ["number", "least", "most", "what"] (spV K S_check_number) := by
  refine fc_of T.d_check_number sc_check_number (fun vs H Q E h => by obtain ⟨Z, ds, zl, q, n, l, m, z, rfl, pre, k⟩ := h; have := q.length; rw [this]; rfl) (fun _ _ _ _ _ _ us hl => match us, hl with | [_, _, _, _], _ => rfl) fun f cdv A outer s H vs Q E hr h => ⟨_, (pss_one (ps_if (pt_not (pt_chain op_le op_le (pv 1) (pv 0) (pv 2)))
 (pss_one ps_no)
 pss_nil)), ?_⟩
  obtain ⟨Z, ds, zl, q, n, l, m, z, rfl, pre, k⟩ := h
  have hs := in_v zl q
  obtain ⟨_, e_, h2⟩ := hs.argI; clear hs; subst e_; have hs := h2; clear h2
  obtain ⟨_, e_, h2⟩ := hs.argI; clear hs; subst e_; have hs := h2; clear h2
  obtain ⟨_, e_, h2⟩ := hs.argI; clear hs; subst e_; have hs := h2; clear h2
  obtain ⟨_, e_, h2⟩ := hs.argS; clear hs; subst e_; have hs := h2; clear h2
  obtain ⟨e_, h2⟩ := hs.argN; clear hs; subst e_; have hs := h2; clear h2
  tm_at "go"
  · tm_at "finv"
    exact k
  · show False
    omega
  · show False
    omega
theorem ok_check_names (T : Txt P w K mg CPlainBook CCodeBook CStock COddsError CBadShare CBadText CBadBook CBadMove CBadProgram CBadPlan CUnfit CTooLarge CBadEdit CCODE_FORMS CIDLE) : Fc P w K mg base CX0 2 "check_names" ["names", "what"] (spV K S_check_names) := by
  refine fc_of T.d_check_names sc_check_names (fun vs H Q E h => by obtain ⟨Z, ds, zl, q, zs, z, rfl, pre, k⟩ := h; have := q.length; rw [this]; rfl) (fun _ _ _ _ _ _ us hl => match us, hl with | [_, _], _ => rfl) fun f cdv A outer s H vs Q E hr h => ⟨_, (pss_cons (ps_for PassesOwn.never rfl (piLK K (pv 0)) (pg_name (i := 2) sc_check_names.nd rfl (Or.inl rfl))
 (pss_one (ps_if (pt_not (pt_val (pe_fc (ok_is_name T) pass0 (hr.mono (by omega)) (pa_cons (pv 2) pa_nil))))
 (pss_one ps_no)
 pss_nil)))
 (pss_one (ps_if (pt_cmpR op_ne (N17.pe_lenSet (K := K) hr.units T.n_len T.n_set (pv 0)) (pe_callB (lenK K) (by rfl) T.n_len b_len (pa_cons (pv 0) pa_nil)) (nomark _))
 (pss_one ps_no)
 pss_nil))), ?_⟩
  obtain ⟨Z, ds, zl, q, zs, z, rfl, pre, k⟩ := h
  have hs := in_v zl q
  obtain ⟨v0, _, e_, h2⟩ := hs.arg; clear hs; subst e_; have hs := h2; clear h2
  obtain ⟨_, e_, h2⟩ := hs.argS; clear hs; subst e_; have hs := h2; clear h2
  obtain ⟨e_, h2⟩ := hs.argN; clear hs; subst e_; have hs := h2; clear h2
  obtain ⟨few, good, nd⟩ := pre
  have lz : (zs.map PyData.str).length = zs.length := List.length_map _
  tm_at "go"
  refine l_dl (zs.map PyData.str) (fun i σ H' => ∃ u2 : Option V, σ = [some v0, some (.str z), u2] ∧ Hs K ⟨H, [], Z⟩ Z H' [] [([v0], [.list (zs.map PyData.str)])]) ?_ ?_ ?_ ?_
  · exact ⟨none, rfl, hs⟩
  · rintro i σ H' hi ⟨u2, rfl, hs2⟩
    exact ⟨Z, by tm_at "lr"⟩
  · rintro i d x σ H5 hd hx ⟨u2, rfl, hs2⟩
    obtain ⟨y, hy, rfl⟩ := at_map hd
    obtain ⟨g1, g2⟩ := good y (List.mem_of_getElem? hy)
    have hs3 := hs2.fact1 (hx Z (by tm_at "lr"))
    clear hs2 hx
    tm_at "run"
    · exact ⟨_, rfl, by tm_at "wk"⟩
    · rename_i hb
      rw [g1] at hb
      cases hb
  · rintro σ H' ⟨u2, rfl, hs2⟩
    tm_at "run"
    refine h_lenSetS (by tm_at "lr") (by omega) nd ?_
    tm_at "run"
    · tm_at "finv"
      exact k
    · rename_i hc
      exact absurd (by omega) hc


end



/-! my own steps: rows of tactics, tried from above -/

/-! steps over Hs -/











abbrev S_check_rows : List PyData → (PyData → Prop) → Prop := fun ds φ => ∃ (m : Int), ds = [.tuple [], .int m] ∧ (φ (.none))
theorem sp_check_rows {φ : PyData → Prop} {m : Int} (k_ : φ (.none)) : S_check_rows [.tuple [], .int m] φ := ⟨m, rfl, k_⟩
local macro_rules | `(tactic| tm_at "step") => `(tactic| first | (with_reducible refine sp_check_rows ?_) | fail)
abbrev S_check_parts : List PyData → (PyData → Prop) → Prop := fun ds φ => ∃ (m : Int), ds = [.tuple [], .int m] ∧ (φ (.none))
theorem sp_check_parts {φ : PyData → Prop} {m : Int} (k_ : φ (.none)) : S_check_parts [.tuple [], .int m] φ := ⟨m, rfl, k_⟩
local macro_rules | `(tactic| tm_at "step") => `(tactic| first | (with_reducible refine sp_check_parts ?_) | fail)
/-- a menu is good -/
def MnG (zs : List Str) (m : Int) (t : List (Str × Int)) : Prop := t.length ≤ 6 ∧ t.Nodup ∧ ∀ x ∈ t, x.1 ∈ zs ∧ 0 ≤ x.2 ∧ x.2 < m
abbrev Mns := List (List (Str × Int))
abbrev eMn (mu : Mns) : PyData := .tuple (mu.map fun t => .tuple (t.map eTh))
def MnsG (zs : List Str) (m : Int) (mu : Mns) : Prop := (1 ≤ mu.length ∧ mu.length ≤ 8) ∧ ∀ t ∈ mu, MnG zs m t
abbrev S_check_ports : List PyData → (PyData → Prop) → Prop := fun ds φ => ∃ (mu : Mns), ∃ (zs : List Str), ∃ (m : Int), ds = [eMn mu, .list (zs.map PyData.str), .int m] ∧ (MnsG zs m mu) ∧ (φ (.none))
theorem sp_check_ports {φ : PyData → Prop} {mu : Mns} {zs : List Str} {m : Int} (p_ : MnsG zs m mu) (k_ : φ (.none)) : S_check_ports [eMn mu, .list (zs.map PyData.str), .int m] φ := ⟨mu, zs, m, rfl, p_, k_⟩
local macro_rules | `(tactic| tm_at "step") => `(tactic| first | (with_reducible refine' sp_check_ports ?k1 ?_; (case k1 => tm_at "pre")) | fail)
/-- the pairs of a menu as keys -/
def kTh (x : Str × Int) : NestedKey := .tup [.text x.1, .num x.2]
theorem kTh_inj {x y : Str × Int} (h : kTh x = kTh y) : x = y := by
  cases x; cases y
  unfold kTh at h
  cases h
  rfl
theorem nodup_map {α β : Type} {f : α → β} (inj : ∀ a b, f a = f b → a = b) {l : List α} (h : l.Nodup) : (l.map f).Nodup :=
  List.pairwise_map.mpr (List.Pairwise.imp (fun n z => n (inj _ _ z)) h)
theorem ref_rows {K : PySem.W.Frag} {Z : List Addr} {H : Hp} : ∀ {ts : List (Str × Int)} {xs : List V}, Dts K Z H xs (ts.map eTh) → ∃ ks : List N17.Row, xs = (ks.map fun r => V.ref r.1) ∧ ks.map (·.2) = ts.map kTh ∧ ∀ r ∈ ks, N17.KD K Z H r
  | [], _, h => by cases h; exact ⟨[], rfl, rfl, fun _ z => by cases z⟩
  | t :: ts, _, h => by
    cases h with
    | cons h1 h2 =>
      obtain ⟨ks, e1, e2, e3⟩ := ref_rows h2
      obtain ⟨a, ys, rfl, _, _⟩ := id h1.tup_inv
      refine ⟨(a, kTh t) :: ks, by rw [e1]; rfl, by rw [List.map_cons, List.map_cons, e2], fun r hr => ?_⟩
      rcases List.mem_cons.mp hr with rfl | hr
      · exact ⟨h1, by show (kTh t).depth ≤ 8; exact Nat.le_of_ble_eq_true rfl⟩
      · exact e3 r hr
theorem h_lenSetT {K : PySem.W.Frag} {Z : List Addr} {H : Hp} {v : V} {ts : List (Str × Int)} {Q : VK} (m : Dt K Z H v (.tuple (ts.map eTh))) (few : ts.length ≤ 76) (nd : ts.Nodup) (k : Q (.int ts.length) H) : N17.rLenSet K v H Q := by
  obtain ⟨a, xs, rfl, t, d⟩ := m.tup_inv
  obtain ⟨ks, rfl, e2, e3⟩ := ref_rows d
  have l2 : ks.length = ts.length := by have := congrArg List.length e2; rwa [List.length_map, List.length_map] at this
  refine ⟨a, rfl, .inr ⟨ks, Z, .inr t.sq, e3, by omega, fun c hc => ?_⟩⟩
  rw [e2] at hc
  rw [hc.uniq (.nodup (nodup_map (fun _ _ => kTh_inj) nd)), List.length_map]
  exact k
theorem any_str {zs : List Str} {z : Str} (h : z ∈ zs) : ((zs.map PyData.str).any fun y => PyData.eqv y (.str z)) = true :=
  (any_iff (noBs_map _ (fun _ => rfl) zs) rfl).mpr (List.mem_map.mpr ⟨z, h, rfl⟩)

section
variable {P : Program} {w : World} {K : PySem.W.Frag} {mg : Str → Option Value} {base : Heap} {CPlainBook CCodeBook CStock COddsError CBadShare CBadText CBadBook CBadMove CBadProgram CBadPlan CUnfit CTooLarge CBadEdit CCODE_FORMS CIDLE : Addr}
theorem ok_check_rows (T : Txt P w K mg CPlainBook CCodeBook CStock COddsError CBadShare CBadText CBadBook CBadMove CBadProgram CBadPlan CUnfit CTooLarge CBadEdit CCODE_FORMS CIDLE) : Fc P w K mg base CX0 2 "check_rows" ["rows", "modulus"] (spV K S_check_rows) := by
  refine fc_of T.d_check_rows sc_check_rows (fun vs H Q E h => by obtain ⟨Z, ds, zl, q, m, rfl, k⟩ := h; have := q.length; rw [this]; rfl) (fun _ _ _ _ _ _ us hl => match us, hl with | [_, _], _ => rfl) fun f cdv A outer s H vs Q E hr h => ⟨_, (pss_cons (ps_expr (pe_fc (ok_check_number T) pass0 (hr.mono (by omega)) (pa_cons (pe_callB (lenK K) (by rfl) T.n_len b_len (pa_cons (pv 0) pa_nil)) (pa_cons pe_int (pa_cons (C8.pe_gc (v := .int 8) rfl T.g_MOST_ROWS) (pa_cons pe_str pa_nil))))))
 (pss_cons (ps_expr (pe_fc (ok_check_number T) pass0 (hr.mono (by omega)) (pa_cons (pe_callB (cr_sum rfl) (by rfl) T.n_sum b_sum (pa_cons (pe_lc (own := [("row", 2)]) (g := (gName 2)) (tt := tYes) rfl sc_check_rows.nd (piTK K (pv 0)) (blkOk_by (own := [("row", 2)]) (N := ["rows", "modulus", "row", "value"]) (sc := defScope s_check_rows) (by decide +kernel)) (fun _ _ _ _ _ => (pg_name (i := 2) sc_check_rows.nd rfl (Or.inl rfl))) (fun _ _ _ _ _ => pts_nil) (fun _ _ _ _ _ => (pe_callB (lenK K) (by rfl) T.n_len b_len (pa_cons (pv 2) pa_nil)))) pa_nil)) (pa_cons pe_int (pa_cons (C8.pe_gc (v := .int 16) rfl T.g_MOST_CELLS) (pa_cons pe_str pa_nil))))))
 (pss_one (ps_for PassesOwn.never rfl (piTK K (pv 0)) (pg_name (i := 2) sc_check_rows.nd rfl (Or.inl rfl))
 (pss_cons ps_no
 (pss_one ps_no)))))), ?_⟩
  obtain ⟨Z, ds, zl, q, m, rfl, k⟩ := h
  have hs := in_v zl q
  obtain ⟨v0, _, e_, h2⟩ := hs.arg; clear hs; subst e_; have hs := h2; clear h2
  obtain ⟨_, e_, h2⟩ := hs.argI; clear hs; subst e_; have hs := h2; clear h2
  obtain ⟨e_, h2⟩ := hs.argN; clear hs; subst e_; have hs := h2; clear h2
  tm_at "go"
  rename_i H1 hs1
  refine h_lcT [] (fun i acc => acc = []) hs1 (fun D acc Z' H' h => by tm_at "dt") rfl (fun D i d x acc Z' H' hd => by cases hd) (fun D acc Z3 H9 hr hacc hz hs9 => ?_)
  rw [hr] at hs9
  clear hs hs1
  tm_at "run"
  refine h_sumL [] (hs9.dlv .here) ?_
  tm_at "run"
  rename_i H2 hs2
  refine l_dt [] (fun i σ H' => Hs K ⟨H, [], Z⟩ Z3 H' [] [([v0], [.tuple []])]) ?_ ?_ ?_ ?_
  · tm_at "wk"
  · intro i σ H' hi hq
    exact ⟨Z3, by tm_at "dt"⟩
  · intro i d x σ H' hd
    cases hd
  · intro σ H' hq
    tm_at "run"
    tm_at "finv"
    exact k
theorem ok_check_parts (T : Txt P w K mg CPlainBook CCodeBook CStock COddsError CBadShare CBadText CBadBook CBadMove CBadProgram CBadPlan CUnfit CTooLarge CBadEdit CCODE_FORMS CIDLE) : Fc P w K mg base CX0 3 "check_parts" ["parts", "modulus"] (spV K S_check_parts) := by
  refine fc_of T.d_check_parts sc_check_parts (fun vs H Q E h => by obtain ⟨Z, ds, zl, q, m, rfl, k⟩ := h; have := q.length; rw [this]; rfl) (fun _ _ _ _ _ _ us hl => match us, hl with | [_, _], _ => rfl) fun f cdv A outer s H vs Q E hr h => ⟨_, (pss_cons (ps_expr (pe_fc (ok_check_number T) pass0 (hr.mono (by omega)) (pa_cons (pe_callB (lenK K) (by rfl) T.n_len b_len (pa_cons (pv 0) pa_nil)) (pa_cons pe_int (pa_cons (C8.pe_gc (v := .int 4) rfl T.g_MOST_PARTS) (pa_cons pe_str pa_nil))))))
 (pss_cons (ps_expr (pe_fc (ok_check_names T) pass0 (hr.mono (by omega)) (pa_cons (pe_lc (own := [("name", 5), ("_", 2)]) (g := (gTup K 2 (gCons (gName 5) (gCons (gName 2) gNil)))) (tt := tYes) rfl sc_check_parts.nd (piTK K (pv 0)) (blkOk_by (own := [("name", 5), ("_", 2)]) (N := ["parts", "modulus", "_", "plain", "choice", "name"]) (sc := defScope s_check_parts) (by decide +kernel)) (fun _ _ _ _ _ => (pgTK K 2 (by rfl) (pgs_cons (pg_name (i := 5) sc_check_parts.nd rfl (Or.inl rfl)) (pgs_cons (pg_name (i := 2) sc_check_parts.nd rfl (Or.inl rfl)) pgs_nil)))) (fun _ _ _ _ _ => pts_nil) (fun _ _ _ _ _ => (pv 5))) (pa_cons pe_str pa_nil))))
 (pss_one (ps_for PassesOwn.never rfl (piTK K (pv 0)) (pgTK K 2 (by rfl) (pgs_cons (pg_name (i := 2) sc_check_parts.nd rfl (Or.inl rfl)) (pgs_cons (pg_name (i := 3) sc_check_parts.nd rfl (Or.inl rfl)) pgs_nil)))
 (pss_cons ps_no
 (pss_one ps_no)))))), ?_⟩
  obtain ⟨Z, ds, zl, q, m, rfl, k⟩ := h
  have hs := in_v zl q
  obtain ⟨v0, _, e_, h2⟩ := hs.arg; clear hs; subst e_; have hs := h2; clear h2
  obtain ⟨_, e_, h2⟩ := hs.argI; clear hs; subst e_; have hs := h2; clear h2
  obtain ⟨e_, h2⟩ := hs.argN; clear hs; subst e_; have hs := h2; clear h2
  tm_at "go"
  rename_i H1 hs1
  refine h_lcT [] (fun i acc => acc = []) hs1 (fun D acc Z' H' h => by tm_at "dt") rfl (fun D i d x acc Z' H' hd => by cases hd) (fun D acc Z3 H9 hr hacc hz hs9 => ?_)
  rw [hr] at hs9
  have hs9 := hs9.freeze .here
  have hs9 : Hs K ⟨H, [], Z⟩ (D :: Z3) H9 [] [([.ref D], [.list (([] : List Str).map PyData.str)]), ([v0], [.tuple []])] := hs9
  clear hs hs1
  tm_at "run"
  rename_i H2 hs2
  refine l_dt [] (fun i σ H' => Hs K ⟨H, [], Z⟩ (D :: Z3) H' [] [([v0], [.tuple []])]) ?_ ?_ ?_ ?_
  · tm_at "wk"
  · intro i σ H' hi hq
    exact ⟨D :: Z3, by tm_at "dt"⟩
  · intro i d x σ H' hd
    cases hd
  · intro σ H' hq
    tm_at "run"
    tm_at "finv"
    exact k
theorem ok_check_ports (T : Txt P w K mg CPlainBook CCodeBook CStock COddsError CBadShare CBadText CBadBook CBadMove CBadProgram CBadPlan CUnfit CTooLarge CBadEdit CCODE_FORMS CIDLE) : Fc P w K mg base CX0 2 "check_ports" ["ports", "names", "modulus"] (spV K S_check_ports) := by
  refine fc_of T.d_check_ports sc_check_ports (fun vs H Q E h => by obtain ⟨Z, ds, zl, q, mu, zs, m, rfl, pre, k⟩ := h; have := q.length; rw [this]; rfl) (fun _ _ _ _ _ _ us hl => match us, hl with | [_, _, _], _ => rfl) fun f cdv A outer s H vs Q E hr h => ⟨_, (pss_cons (ps_expr (pe_fc (ok_check_number T) pass0 (hr.mono (by omega)) (pa_cons (pe_callB (lenK K) (by rfl) T.n_len b_len (pa_cons (pv 0) pa_nil)) (pa_cons pe_int (pa_cons (C8.pe_gc (v := .int 8) rfl T.g_MOST_PORTS) (pa_cons pe_str pa_nil))))))
 (pss_one (ps_for PassesOwn.never rfl (piTK K (pv 0)) (pg_name (i := 3) sc_check_ports.nd rfl (Or.inl rfl))
 (pss_cons (ps_expr (pe_fc (ok_check_number T) pass0 (hr.mono (by omega)) (pa_cons (pe_callB (lenK K) (by rfl) T.n_len b_len (pa_cons (pv 3) pa_nil)) (pa_cons pe_int (pa_cons (C8.pe_gc (v := .int 6) rfl T.g_MOST_ITEMS) (pa_cons pe_str pa_nil))))))
 (pss_cons (ps_if (pt_cmpR op_ne (N17.pe_lenSet (K := K) hr.units T.n_len T.n_set (pv 3)) (pe_callB (lenK K) (by rfl) T.n_len b_len (pa_cons (pv 3) pa_nil)) (nomark _))
 (pss_one ps_no)
 pss_nil)
 (pss_one (ps_for PassesOwn.never rfl (piTK K (pv 3)) (pgTK K 2 (by rfl) (pgs_cons (pg_name (i := 4) sc_check_ports.nd rfl (Or.inl rfl)) (pgs_cons (pg_name (i := 5) sc_check_ports.nd rfl (Or.inl rfl)) pgs_nil)))
 (pss_cons (ps_if (pt_cmpR (niAK K hr.units) (pv 4) (pv 1) rfl)
 (pss_one ps_no)
 pss_nil)
 (pss_one (ps_expr (pe_fc (ok_check_number T) pass0 (hr.mono (by omega)) (pa_cons (pv 5) (pa_cons pe_int (pa_cons (pe_op op_sub (pv 2) pe_int) (pa_cons pe_str pa_nil))))))))))))))), ?_⟩
  obtain ⟨Z, ds, zl, q, mu, zs, m, rfl, pre, k⟩ := h
  have hs := in_v zl q
  obtain ⟨v0, _, e_, h2⟩ := hs.arg; clear hs; subst e_; have hs := h2; clear h2
  obtain ⟨v1, _, e_, h2⟩ := hs.arg; clear hs; subst e_; have hs := h2; clear h2
  obtain ⟨_, e_, h2⟩ := hs.argI; clear hs; subst e_; have hs := h2; clear h2
  obtain ⟨e_, h2⟩ := hs.argN; clear hs; subst e_; have hs := h2; clear h2
  obtain ⟨⟨l1, l8⟩, good⟩ := pre
  have lm : (mu.map fun t => PyData.tuple (t.map eTh)).length = mu.length := List.length_map _
  tm_at "go"
  refine l_dt (mu.map fun t => PyData.tuple (t.map eTh)) (fun i σ H' => ∃ u3 u4 u5 : Option V, σ = [some v0, some v1, some (.int m), u3, u4, u5] ∧ Hs K ⟨H, [], Z⟩ Z H' [] [([v1], [.list (zs.map PyData.str)]), ([v0], [eMn mu])]) ?_ ?_ ?_ ?_
  · exact ⟨none, none, none, rfl, by tm_at "wk"⟩
  · rintro i σ H' hi ⟨u3, u4, u5, rfl, hs2⟩
    exact ⟨Z, by tm_at "dt"⟩
  · rintro i d x σ H5 hd hx ⟨u3, u4, u5, rfl, hs2⟩
    obtain ⟨t, ht, rfl⟩ := at_map hd
    obtain ⟨g1, g2, g3⟩ := good t (List.mem_of_getElem? ht)
    have hs3 := hs2.fact1 (hx Z (by tm_at "dt"))
    have lt : (t.map eTh).length = t.length := List.length_map _
    clear hs hs2 hx
    tm_at "run"
    refine h_lenSetT (by tm_at "dt") (by omega) g2 ?_
    tm_at "run"
    rotate_left
    · rename_i hc
      exact absurd (by omega) hc
    rename_i H6 hs6 hc
    clear hs3 hc
    refine l_dt (t.map eTh) (fun i σ H' => ∃ u4 u5 : Option V, σ = [some v0, some v1, some (.int m), some x, u4, u5] ∧ Hs K ⟨H, [], Z⟩ Z H' [] [([x], [.tuple (t.map eTh)]), ([v1], [.list (zs.map PyData.str)]), ([v0], [eMn mu])]) ?_ ?_ ?_ ?_
    · exact ⟨_, _, rfl, by tm_at "wk"⟩
    · rintro i σ H' hi ⟨u4, u5, rfl, hs7⟩
      exact ⟨Z, by tm_at "dt"⟩
    · rintro i d x2 σ H7 hd hx ⟨u4, u5, rfl, hs7⟩
      obtain ⟨y, hy, rfl⟩ := at_map hd
      obtain ⟨y1, y2, y3⟩ := g3 y (List.mem_of_getElem? hy)
      have hs8 := hs7.fact1 (hx Z (by tm_at "dt"))
      have ea := any_str y1
      clear hs7 hx
      tm_at "run"
      refine h_niL (Z := Z) (ds := zs.map PyData.str) (d := .str y.1) (by tm_at "dt") (by tm_at "da") (by tm_at "dep") ?_
      rw [ea]
      tm_at "run"
      exact ⟨_, _, rfl, by tm_at "wk"⟩
    · rintro σ H' ⟨u4, u5, rfl, hs7⟩
      tm_at "run"
      exact ⟨_, _, _, rfl, by tm_at "wk"⟩
  · rintro σ H' ⟨u3, u4, u5, rfl, hs2⟩
    tm_at "run"
    tm_at "finv"
    exact k


end



/-! my own steps: rows of tactics, tried from above -/

/-! steps over Hs -/











/-! forms and limits -/
local macro_rules | `(tactic| tm_at "step") => `(tactic| first
  | with_reducible refine u_dget ?_
  | with_reducible refine u_zipS ?_
  | (with_reducible refine' h_dkA ?k1 ?k2 ?_; (case k1 => with_reducible assumption); (case k2 => tm_at "loc"))
  | fail)
def FmAt (K : PySem.W.Frag) (f : Addr) (H : Hp) : Prop := ∃ kvs b, H f = some (.dK kvs) ∧ valV kvs (.inr "answer") = some (.ref b) ∧ ∀ H, SqT K H b [.str "r"]
theorem FmAt.kp {K : PySem.W.Frag} {f : Addr} {H H' : Hp} (h : FmAt K f H) (k : Kp [] H H') : FmAt K f H' := by
  obtain ⟨kvs, b, h1, h2, h3⟩ := h
  exact ⟨kvs, b, k.get0 h1, h2, h3⟩
def LmAt (l : Addr) (H : Hp) : Prop := ∃ kvs r, H l = some (.dK kvs) ∧ valV kvs (.inr "r") = some (.int r) ∧ 0 < r
theorem LmAt.kp {l : Addr} {H H' : Hp} (h : LmAt l H) (k : Kp [] H H') : LmAt l H' := by
  obtain ⟨kvs, r, h1, h2, h3⟩ := h
  exact ⟨kvs, r, k.get0 h1, h2, h3⟩
abbrev eAn : PyData := .tuple [.str "answer", .int 0]
def spForm (K : PySem.W.Frag) : Sp := fun vs H Q _ => ∃ (Z : List Addr) (f : Addr) (v : V), vs = [.ref f, v] ∧ (∀ z ∈ Z, ∃ o, H z = some o) ∧ FmAt K f H ∧ Dt K Z H v eAn ∧ ∀ H', Kp [] H H' → Q (.str "r") H'
def spInstr (K : PySem.W.Frag) : Sp := fun vs H Q _ => ∃ (Z : List Addr) (f l : Addr) (v : V), vs = [v, .ref f, .ref l] ∧ (∀ z ∈ Z, ∃ o, H z = some o) ∧ FmAt K f H ∧ LmAt l H ∧ Dt K Z H v eAn ∧ ∀ H', Kp [] H H' → Q .non H'
abbrev S_has_fused_ring : List PyData → (PyData → Prop) → Prop := fun ds φ => ds = [.tuple [eLn]] ∧ (φ (.bool false))
theorem sp_has_fused_ring {φ : PyData → Prop}  (k_ : φ (.bool false)) : S_has_fused_ring [.tuple [eLn]] φ := ⟨rfl, k_⟩
local macro_rules | `(tactic| tm_at "step") => `(tactic| first | (with_reducible refine sp_has_fused_ring ?_) | fail)
abbrev S_check_course : List PyData → (PyData → Prop) → Prop := fun ds φ => ∃ (z : Str), ds = [.str z, .tuple [eLn]] ∧ (φ (.none))
theorem sp_check_course {φ : PyData → Prop} {z : Str} (k_ : φ (.none)) : S_check_course [.str z, .tuple [eLn]] φ := ⟨z, rfl, k_⟩
local macro_rules | `(tactic| tm_at "step") => `(tactic| first | (with_reducible refine sp_check_course ?_) | fail)
local macro_rules | `(tactic| tm_at "step") => `(tactic| first
  | with_reducible refine u_dc ?_
  | with_reducible refine u_ckw ?_
  | with_reducible refine u_pairC ?_
  | with_reducible refine u_pairN ?_
  | fail)

section
variable {P : Program} {w : World} {K : PySem.W.Frag} {mg : Str → Option Value} {base : Heap} {CPlainBook CCodeBook CStock COddsError CBadShare CBadText CBadBook CBadMove CBadProgram CBadPlan CUnfit CTooLarge CBadEdit CCODE_FORMS CIDLE : Addr}
theorem ok_form_of (T : Txt P w K mg CPlainBook CCodeBook CStock COddsError CBadShare CBadText CBadBook CBadMove CBadProgram CBadPlan CUnfit CTooLarge CBadEdit CCODE_FORMS CIDLE) : Fc P w K mg base CX0 1 "form_of" ["forms", "instruction"] (spForm K) := by
  refine fc_of T.d_form_of sc_form_of (fun vs H Q E h => by obtain ⟨Z, f, v, rfl, zl, fm, dv, k⟩ := h; rfl) (fun _ _ _ _ _ _ us hl => match us, hl with | [_, _], _ => rfl) fun f cdv A outer s H vs Q E hr h => ⟨_, (pss_cons (ps_if (pt_cmpR op_eq (pe_callB (lenK K) (by rfl) T.n_len b_len (pa_cons (pv 1) pa_nil)) pe_int (nomark _))
 (pss_one (ps_ret pe_non))
 pss_nil)
 (pss_cons (ps_for PassesOwn.never rfl (piTK K (pe_dget2 (hu_of hr) (pv 0) (pe_ix (ixtK K) (pv 1) pe_int (fun _ _ => rfl)) (pe_tup pa_nil) ⟨rfl, rfl, rfl, rfl⟩)) (pg_name (i := 2) sc_form_of.nd rfl (Or.inl rfl))
 (pss_one (ps_if (pt_cmpR op_eq (pe_callB c_lenS (by rfl) T.n_len b_len (pa_cons (pv 2) pa_nil)) (pe_op op_sub (pe_callB (lenK K) (by rfl) T.n_len b_len (pa_cons (pv 1) pa_nil)) pe_int) (nomark _))
 (pss_one (ps_ret (pv 2)))
 pss_nil)))
 (pss_one (ps_ret pe_non)))), ?_⟩
  obtain ⟨Z, f, v, rfl, zl, fm, dv, k⟩ := h
  have hs : Hs K ⟨H, [], Z⟩ Z H [] [([v], [eAn])] := (Hs.start (fun _ z => by cases z) zl).fact1 dv
  tm_at "go"
  · rename_i hc
    exact absurd hc (by decide)
  rename_i hc
  clear hc
  obtain ⟨kvs, b, h1, h2, h3⟩ := id fm
  refine ⟨f, rfl, .inl ⟨kvs, .inl h1⟩, ?_⟩
  tm_at "run"
  rename_i p2 H2 hs2
  refine ⟨some (.ref b), by rw [← h2]; exact .k (k := .inr "answer") (hs2.kp.get0 h1), ?_⟩
  refine ⟨b, rfl, ⟨_, h3 _⟩, ?_⟩
  refine l_tup [.str "r"] (fun i σ H' => i = 0 ∧ σ = [some (.ref f), some v, none] ∧ Hs K ⟨H, [], Z⟩ Z H' [] [([v], [eAn])]) ?_ ?_ ?_ ?_
  · exact ⟨rfl, rfl, by tm_at "wk"⟩
  · rintro i σ H' hi ⟨rfl, rfl, hs3⟩
    exact h3 _
  · rintro i x σ H' hx ⟨rfl, rfl, hs3⟩
    cases hx
    tm_at "run"
    refine u_lenS (by decide) ?_
    tm_at "run"
    · exact k _ hs3.kp
    · rename_i hc
      exact absurd (show (1 : Int) = 2 - 1 from rfl) hc
  · rintro σ H' ⟨z, _⟩
    cases z
theorem ok_check_instruction (T : Txt P w K mg CPlainBook CCodeBook CStock COddsError CBadShare CBadText CBadBook CBadMove CBadProgram CBadPlan CUnfit CTooLarge CBadEdit CCODE_FORMS CIDLE) : Fc P w K mg base CX0 2 "check_instruction" ["instruction", "forms", "limits"] (spInstr K) := by
  refine fc_of T.d_check_instruction sc_check_instruction (fun vs H Q E h => by obtain ⟨Z, f, l, v, rfl, zl, fm, lm, dv, k⟩ := h; rfl) (fun _ _ _ _ _ _ us hl => match us, hl with | [_, _, _], _ => rfl) fun f cdv A outer s H vs Q E hr h => ⟨_, (pss_cons (ps_set (i := 3) sc_check_instruction.nd rfl (Or.inl rfl) (pe_fc (ok_form_of T) pass0 (hr.mono (by omega)) (pa_cons (pv 1) (pa_cons (pv 0) pa_nil))))
 (pss_cons (ps_if (pt_cmpR o_isN (pv 3) pe_non (nomark _))
 (pss_one ps_no)
 pss_nil)
 (pss_one (ps_for PassesOwn.never rfl (N17.pi_zipS (K := K) (by rfl) T.n_zip (pa_cons (pv 3) (pa_cons (pe_slice (sltAK K) (pv 0) (po_some pe_int) po_none) pa_nil))) (pgTK K 2 (by rfl) (pgs_cons (pg_name (i := 4) sc_check_instruction.nd rfl (Or.inl rfl)) (pgs_cons (pg_name (i := 5) sc_check_instruction.nd rfl (Or.inl rfl)) pgs_nil)))
 (pss_one (ps_if (pt_cmpR op_eq (pv 4) (C8.pe_gc rfl T.g_NAME_LETTER) (nomark _))
 (pss_one (ps_if (pt_not (pt_val (pe_fc (ok_is_name T) pass0 (hr.mono (by omega)) (pa_cons (pv 5) pa_nil))))
 (pss_one ps_no)
 pss_nil))
 (pss_one (ps_if (pt_not (pt_chain op_le op_lt pe_int (pv 5) (pe_dget (hu_of hr) (pv 2) (pv 4) (fun _ _ => rfl))))
 (pss_one ps_no)
 pss_nil)))))))), ?_⟩
  obtain ⟨Z, f, l, v, rfl, zl, fm, lm, dv, k⟩ := h
  have hs : Hs K ⟨H, [], Z⟩ Z H [] [([v], [eAn])] := (Hs.start (fun _ z => by cases z) zl).fact1 dv
  tm_at "go"
  refine ⟨Z, f, v, rfl, zl, fm, dv, fun H1 k1 => ?_⟩
  have hs1 := hs.same k1
  tm_at "run"
  rename_i p2 H2 hs2
  have lm0 := lm
  refine h_zipS (by decide +kernel) (show Dt K Z H2 p2 (.tuple [.int 0]) from by tm_at "dt") ?_
  refine l_zipS [.int 0] (by decide +kernel) (fun i σ H' => ∃ u3 u4 u5 : Option V, σ = [some v, some (.ref f), some (.ref l), u3, u4, u5] ∧ Hs K ⟨H, [], Z⟩ Z H' [] [([p2], [.tuple [.int 0]]), ([v], [eAn])]) ?_ ?_ ?_ ?_
  · exact ⟨_, _, _, rfl, by tm_at "wk"⟩
  · rintro i σ H' hi ⟨u3, u4, u5, rfl, hs3⟩
    exact ⟨Z, by tm_at "dt"⟩
  · rintro i c d y σ H' H3 hc hd kp hy ⟨u3, u4, u5, rfl, hs3⟩
    have hi : i < 1 := (List.getElem?_eq_some_iff.mp hd).1
    obtain rfl : i = 0 := by omega
    cases hd
    cases (show (some 114 : Option Nat) = some c from hc)
    have hs4 := (hs3.same kp).fact1 (hy Z (by tm_at "dt"))
    have h1' := hs4.kp
    obtain ⟨lm2, r2, g1, g2, g3⟩ := LmAt.kp lm0 hs4.kp
    tm_at "run"
    · rename_i hc
      exact absurd hc (by decide +kernel)
    · refine ⟨l, .int r2, rfl, ?_, ?_⟩
      · rw [← g2]
        exact .k (k := .inr "r") g1
      · tm_at "run"
        · exact ⟨_, _, _, rfl, by tm_at "wk"⟩
        · rename_i hc
          exact absurd g3 hc
    · rename_i hc
      exact absurd (show (0 : Int) ≤ 0 from Int.le_refl 0) hc
  · rintro σ H' ⟨u3, u4, u5, rfl, hs3⟩
    tm_at "run"
    exact k _ hs3.kp
theorem ok_has_fused_ring (T : Txt P w K mg CPlainBook CCodeBook CStock COddsError CBadShare CBadText CBadBook CBadMove CBadProgram CBadPlan CUnfit CTooLarge CBadEdit CCODE_FORMS CIDLE) : Fc P w K mg base CX0 2 "has_fused_ring" ["lines"] (spV K S_has_fused_ring) := by
  refine fc_of T.d_has_fused_ring sc_has_fused_ring (fun vs H Q E h => by obtain ⟨Z, ds, zl, q, rfl, k⟩ := h; have := q.length; rw [this]; rfl) (fun _ _ _ _ _ _ us hl => match us, hl with | [_], _ => rfl) fun f cdv A outer s H vs Q E hr h => ⟨_, (pss_cons (ps_set (i := 2) sc_has_fused_ring.nd rfl (Or.inr rfl) (pe_dc (own := [("at", 1), ("line", 4)]) (g := (gTup K 2 (gCons (gName 1) (gCons (gName 4) gNil)))) rfl sc_has_fused_ring.nd (pi_enumT (K := K) (by rfl) T.n_enumerate (pa_cons (pv 0) pa_nil)) (blkOk_by (own := [("at", 1), ("line", 4)]) (N := ["lines", "at", "remaining", "found", "line", "follower"]) (sc := defScope s_has_fused_ring) (by decide +kernel)) (fun _ _ _ _ _ => (pgTK K 2 (by rfl) (pgs_cons (pg_name (i := 1) sc_has_fused_ring.nd rfl (Or.inl rfl)) (pgs_cons (pg_name (i := 4) sc_has_fused_ring.nd rfl (Or.inl rfl)) pgs_nil)))) (fun _ _ _ _ _ => (pts_one (pt_val (pe_ix (ixtK K) (pv 4) pe_int (fun _ _ => rfl))))) (fun _ _ _ _ _ => (pv 1)) (fun _ _ _ _ _ => pe_bl)))
 (pss_cons (ps_set (i := 3) sc_has_fused_ring.nd rfl (Or.inl rfl) pe_bl)
 (pss_cons (ps_while PassesOwn.never (pt_val (pv 3))
 (pss_cons (ps_set (i := 3) sc_has_fused_ring.nd rfl (Or.inl rfl) pe_bl)
 (pss_one (ps_for PassesOwn.never rfl (piLK K (pe_callBK (cr_sortedDR (b := true) rfl) (by rfl) T.n_sorted b_sorted (pa_cons (pv 2) pa_nil) (pk_cons pe_bl pk_nil))) (pg_name (i := 1) sc_has_fused_ring.nd rfl (Or.inl rfl))
 (pss_one ps_no)))))
 (pss_one (ps_ret (pe_cmpR op_gt (pe_callB call_lenD (by rfl) T.n_len b_len (pa_cons (pv 2) pa_nil)) pe_int (nomark _))))))), ?_⟩
  obtain ⟨Z, ds, zl, q, rfl, k⟩ := h
  have hs := in_v zl q
  obtain ⟨v0, _, e_, h2⟩ := hs.arg; clear hs; subst e_; have hs := h2; clear h2
  obtain ⟨e_, h2⟩ := hs.argN; clear hs; subst e_; have hs := h2; clear h2
  tm_at "go"
  refine h_dc (enD [eLn]) src_enT (fun i acc => acc = []) hs (fun D acc Z' H' h => by tm_at "dt") rfl (fun D i d x acc Z3 H9 hd hr hacc hz hs9 => ?_) (fun D acc Z3 H9 hr hacc hz hs9 => ?_)
  · obtain ⟨d', hd', rfl⟩ := enD_inv hd
    have hi : i < 1 := (List.getElem?_eq_some_iff.mp hd').1
    obtain rfl : i = 0 := by omega
    cases hd'
    tm_at "run"
    exact dcS hs9.tl hz hacc hr
  · rw [hr] at hs9
    tm_at "run"
    refine w_by (fun σ H' => ∃ (b : Bool) (u1 u4 u5 : Option V), σ = [some v0, u1, some (.ref D), some (.bl b), u4, u5] ∧ Hs K ⟨H, [], Z⟩ Z3 H' [.dk K D [] true] []) (fun σ _ => match σ with | [_, _, _, some (.bl true), _, _] => 1 | _ => 0) ⟨true, _, _, _, rfl, by tm_at "wk"⟩ ?_ ?_
    · rintro σ H' ⟨b, u1, u4, u5, rfl, hs5⟩
      tm_at "run"
      · rename_i hb
        subst hb
        refine h_sortDk [] hs5 .here rfl fun ms p H6 hp ho hs6 => ?_
        obtain rfl := hp.eq_nil
        have hs6 : Hs K ⟨H, [], Z⟩ Z3 H6 [.dl K p [] true, .dk K D [] true] [] := hs6
        tm_at "run"
        refine l_dl [] (fun i σ H' => ∃ (u1 u4 u5 : Option V), σ = [some v0, u1, some (.ref D), some (.bl false), u4, u5] ∧ Hs K ⟨H, [], Z⟩ Z3 H' [.dl K p [] true, .dk K D [] true] []) ?_ ?_ ?_ ?_
        · exact ⟨_, _, _, rfl, by tm_at "wk"⟩
        · rintro i σ H' hi ⟨u1, u4, u5, rfl, hs7⟩
          exact ⟨Z3, hs7.dlv .here⟩
        · intro i d x σ H5 hd
          cases hd
        · rintro σ H' ⟨u1, u4, u5, rfl, hs7⟩
          tm_at "run"
          exact ⟨⟨_, _, _, _, rfl, by tm_at "wk"⟩, Nat.zero_lt_one⟩
      · refine ⟨D, ?_⟩
        obtain ⟨kvs, e1, e2⟩ := h_lenDk hs5 .here (R := fun kvs => kvs.length = 0) fun kvs h => h
        refine ⟨kvs, rfl, e1, ?_⟩
        rw [e2]
        tm_at "run"
        tm_at "finv"
        exact k
    · rintro σ H Q Q' m ⟨u, hu, c, e, q⟩
      exact ⟨u, hu, c, e, m _ _ q⟩
theorem ok_check_course (T : Txt P w K mg CPlainBook CCodeBook CStock COddsError CBadShare CBadText CBadBook CBadMove CBadProgram CBadPlan CUnfit CTooLarge CBadEdit CCODE_FORMS CIDLE) : Fc P w K mg base CX0 3 "check_course" ["name", "lines"] (spV K S_check_course) := by
  refine fc_of T.d_check_course sc_check_course (fun vs H Q E h => by obtain ⟨Z, ds, zl, q, z, rfl, k⟩ := h; have := q.length; rw [this]; rfl) (fun _ _ _ _ _ _ us hl => match us, hl with | [_, _], _ => rfl) fun f cdv A outer s H vs Q E hr h => ⟨_, (pss_cons (ps_set (i := 2) sc_check_course.nd rfl (Or.inl rfl) (pe_ix (ixtK K) (pe_ix (ixtK K) (pv 1) (pe_un un_neg pe_int) (fun _ _ => rfl)) pe_int (fun _ _ => rfl)))
 (pss_cons (ps_if (PW.pt (pw_and (pt_cmpR op_ne (pe_ix (ixtK K) (pv 2) pe_int (fun _ _ => rfl)) pe_str (nomark _)) (pw_and1 (PW.pt (pw_or (pt_cmpR op_ne (pe_ix (ixtK K) (pv 2) pe_int (fun _ _ => rfl)) pe_str (nomark _)) (pw_or1 (pt_cmpR op_gt (pe_callB (lenK K) (by rfl) T.n_len b_len (pa_cons (pv 2) pa_nil)) pe_int (nomark _))))))))
 (pss_one ps_no)
 pss_nil)
 (pss_cons (ps_for PassesOwn.never rfl (piTK K (pv 1)) (pgTK K 2 (by rfl) (pgs_cons (pg_name (i := 3) sc_check_course.nd rfl (Or.inl rfl)) (pgs_cons (pg_name (i := 4) sc_check_course.nd rfl (Or.inl rfl)) pgs_nil)))
 (pss_one (ps_if (PW.pt (pw_and (pt_val (pv 4)) (pw_and1 (pt_cmpR op_eq (pe_ix (ixtK K) (pv 3) pe_int (fun _ _ => rfl)) pe_str (nomark _)))))
 (pss_one ps_no)
 pss_nil)))
 (pss_one (ps_if (pt_val (pe_fc (ok_has_fused_ring T) pass0 (hr.mono (by omega)) (pa_cons (pv 1) pa_nil)))
 (pss_one ps_no)
 pss_nil))))), ?_⟩
  obtain ⟨Z, ds, zl, q, z, rfl, k⟩ := h
  have hs := in_v zl q
  obtain ⟨_, e_, h2⟩ := hs.argS; clear hs; subst e_; have hs := h2; clear h2
  obtain ⟨v1, _, e_, h2⟩ := hs.arg; clear hs; subst e_; have hs := h2; clear h2
  obtain ⟨e_, h2⟩ := hs.argN; clear hs; subst e_; have hs := h2; clear h2
  tm_at "go"
  rotate_left
  · rename_i hc _ _
    exact absurd rfl hc
  · rename_i hc _ _
    exact absurd rfl hc
  · rename_i hc _
    exact absurd rfl hc
  rename_i hc
  clear hc
  refine l_dt [eLn] (fun i σ H' => ∃ u2 u3 u4 : Option V, σ = [some (.str z), some v1, u2, u3, u4] ∧ Hs K ⟨H, [], Z⟩ Z H' [] [([v1], [.tuple [eLn]])]) ?_ ?_ ?_ ?_
  · exact ⟨_, _, _, rfl, by tm_at "wk"⟩
  · rintro i σ H' hi ⟨u2, u3, u4, rfl, hs2⟩
    exact ⟨Z, by tm_at "dt"⟩
  · rintro i d x σ H5 hd hx ⟨u2, u3, u4, rfl, hs2⟩
    have hi : i < 1 := (List.getElem?_eq_some_iff.mp hd).1
    obtain rfl : i = 0 := by omega
    cases hd
    have hs3 := hs2.fact1 (hx Z (by tm_at "dt"))
    tm_at "run"
    exact ⟨_, _, _, rfl, by tm_at "wk"⟩
  · rintro σ H' ⟨u2, u3, u4, rfl, hs2⟩
    tm_at "run"
    tm_at "finv"
    exact k


end



/-! my own steps: rows of tactics, tried from above -/

/-! steps over Hs -/











/-! a code book of the law: deeds that answer at once -/
abbrev eDd (z : Str) : PyData := .tuple [.str z, .tuple [eLn]]
abbrev eDs (zs : List Str) : PyData := .tuple (zs.map eDd)
def NmG (zs : List Str) : Prop := (1 ≤ zs.length ∧ zs.length ≤ 24) ∧ (∀ x ∈ zs, isName x = true ∧ x.length ≤ 20) ∧ zs.Nodup
abbrev S_check_code : List PyData → (PyData → Prop) → Prop := fun ds φ => ∃ (m r : Int), ∃ (mu : Mns), ∃ (zs : List Str), ds = [.int m, .int r, .tuple [], .tuple [], eMn mu, eDs zs] ∧ ((2 ≤ m ∧ m ≤ 8 ∧ 1 ≤ r ∧ r ≤ 16) ∧ NmG zs ∧ MnsG zs m mu) ∧ (φ (.none))
theorem sp_check_code {φ : PyData → Prop} {m r : Int} {mu : Mns} {zs : List Str} (p_ : (2 ≤ m ∧ m ≤ 8 ∧ 1 ≤ r ∧ r ≤ 16) ∧ NmG zs ∧ MnsG zs m mu) (k_ : φ (.none)) : S_check_code [.int m, .int r, .tuple [], .tuple [], eMn mu, eDs zs] φ := ⟨m, r, mu, zs, rfl, p_, k_⟩
local macro_rules | `(tactic| tm_at "step") => `(tactic| first | (with_reducible refine' sp_check_code ?k1 ?_; (case k1 => tm_at "pre")) | fail)
local macro_rules | `(tactic| tm_at "step") => `(tactic| first | (with_reducible refine' fmtS ?k1 ?_; (case k1 => tm_at "ln")) | fail)

section
variable {P : Program} {w : World} {K : PySem.W.Frag} {mg : Str → Option Value} {base : Heap} {CPlainBook CCodeBook CStock COddsError CBadShare CBadText CBadBook CBadMove CBadProgram CBadPlan CUnfit CTooLarge CBadEdit CCODE_FORMS CIDLE : Addr}
theorem ok_check_code (T : Txt P w K mg CPlainBook CCodeBook CStock COddsError CBadShare CBadText CBadBook CBadMove CBadProgram CBadPlan CUnfit CTooLarge CBadEdit CCODE_FORMS CIDLE) : Fc P w K mg base CX0 4 "check_code" ["modulus", "registers", "rows", "parts", "ports", "deeds"] (spV K S_check_code) := by
  refine fc_of T.d_check_code sc_check_code (fun vs H Q E h => by obtain ⟨Z, ds, zl, q, m, r, mu, zs, rfl, pre, k⟩ := h; have := q.length; rw [this]; rfl) (fun _ _ _ _ _ _ us hl => match us, hl with | [_, _, _, _, _, _], _ => rfl) fun f cdv A outer s H vs Q E hr h => ⟨_, (pss_cons (ps_expr (pe_fc (ok_check_number T) pass0 (hr.mono (by omega)) (pa_cons (pv 0) (pa_cons (C8.pe_gc (v := .int 2) rfl T.g_LEAST_MODULUS) (pa_cons (C8.pe_gc (v := .int 8) rfl T.g_MOST_MODULUS) (pa_cons pe_str pa_nil))))))
 (pss_cons (ps_expr (pe_fc (ok_check_number T) pass0 (hr.mono (by omega)) (pa_cons (pv 1) (pa_cons pe_int (pa_cons (C8.pe_gc (v := .int 16) rfl T.g_MOST_REGISTERS) (pa_cons pe_str pa_nil))))))
 (pss_cons (ps_expr (pe_fc (ok_check_rows T) pass0 (hr.mono (by omega)) (pa_cons (pv 2) (pa_cons (pv 0) pa_nil))))
 (pss_cons (ps_expr (pe_fc (ok_check_parts T) pass0 (hr.mono (by omega)) (pa_cons (pv 3) (pa_cons (pv 0) pa_nil))))
 (pss_cons (ps_setLc (i := 8) (own := [("name", 6), ("_", 7)]) (g := (gTup K 2 (gCons (gName 6) (gCons (gName 7) gNil)))) (tt := tYes) rfl sc_check_code.nd rfl rfl (sw_true rfl rfl rfl (by decide +kernel)) (piTK K (pv 5)) (blkOk_by (own := [("name", 6), ("_", 7)]) (N := ["modulus", "registers", "rows", "parts", "ports", "deeds", "name", "_", "names", "forms", "lines", "limits", "instruction"]) (sc := defScope s_check_code) (by decide +kernel)) (fun _ _ _ _ _ => (pgTK K 2 (by rfl) (pgs_cons (pg_name (i := 6) sc_check_code.nd rfl (Or.inl rfl)) (pgs_cons (pg_name (i := 7) sc_check_code.nd rfl (Or.inl rfl)) pgs_nil)))) (fun _ _ _ _ _ => pts_nil) (fun _ _ _ _ _ => (pv 6)))
 (pss_cons (ps_expr (pe_fc (ok_check_names T) pass0 (hr.mono (by omega)) (pa_cons (pv 8) (pa_cons pe_str pa_nil))))
 (pss_cons (ps_expr (pe_fc (ok_check_number T) pass0 (hr.mono (by omega)) (pa_cons (pe_callB (lenK K) (by rfl) T.n_len b_len (pa_cons (pv 5) pa_nil)) (pa_cons pe_int (pa_cons (C8.pe_gc (v := .int 24) rfl T.g_MOST_DEEDS) (pa_cons pe_str pa_nil))))))
 (pss_cons (ps_expr (pe_fc (ok_check_ports T) pass0 (hr.mono (by omega)) (pa_cons (pv 4) (pa_cons (pv 8) (pa_cons (pv 0) pa_nil)))))
 (pss_cons (ps_set (i := 9) sc_check_code.nd rfl (Or.inl rfl) (pe_callTy cr_dictO (by rfl) T.n_dict b_dict (pa_cons (C8.pe_gc rfl T.g_CODE_FORMS) pa_nil)))
 (pss_one (ps_for PassesOwn.never rfl (piTK K (pv 5)) (pgTK K 2 (by rfl) (pgs_cons (pg_name (i := 6) sc_check_code.nd rfl (Or.inl rfl)) (pgs_cons (pg_name (i := 10) sc_check_code.nd rfl (Or.inl rfl)) pgs_nil)))
 (pss_cons (ps_expr (pe_fc (ok_check_number T) pass0 (hr.mono (by omega)) (pa_cons (pe_callB (lenK K) (by rfl) T.n_len b_len (pa_cons (pv 10) pa_nil)) (pa_cons pe_int (pa_cons (C8.pe_gc (v := .int 160) rfl T.g_MOST_LINES) (pa_cons (pe_join (.cons pe_str (.cons (pe_fmt (pv 6)) .nil))) pa_nil))))))
 (pss_cons (ps_set (i := 11) sc_check_code.nd rfl (Or.inl rfl) (pe_disp (pps_cons pe_str (pv 1) (pps_cons pe_str (pe_callB (lenK K) (by rfl) T.n_len b_len (pa_cons (pv 2) pa_nil)) (pps_cons pe_str (C8.pe_gc (v := .int 8) rfl T.g_PLACE_LIMIT) (pps_cons pe_str (pv 0) (pps_cons pe_str (pe_callB (lenK K) (by rfl) T.n_len b_len (pa_cons (pv 3) pa_nil)) (pps_cons pe_str (pe_callB (lenK K) (by rfl) T.n_len b_len (pa_cons (pv 10) pa_nil)) pps_nil)))))) rfl rfl (by simp) (by decide)))
 (pss_cons (ps_for PassesOwn.never rfl (piTK K (pv 10)) (pgTK K 2 (by rfl) (pgs_cons (pg_name (i := 12) sc_check_code.nd rfl (Or.inl rfl)) (pgs_cons (pg_name (i := 7) sc_check_code.nd rfl (Or.inl rfl)) pgs_nil)))
 (pss_one (ps_expr (pe_fc (ok_check_instruction T) pass0 (hr.mono (by omega)) (pa_cons (pv 12) (pa_cons (pv 9) (pa_cons (pv 11) pa_nil)))))))
 (pss_one (ps_expr (pe_fc (ok_check_course T) pass0 (hr.mono (by omega)) (pa_cons (pv 6) (pa_cons (pv 10) pa_nil))))))))))))))))))), ?_⟩
  obtain ⟨Z, ds, zl, q, m, r, mu, zs, rfl, pre, k⟩ := h
  have hs := in_v zl q
  obtain ⟨_, e_, h2⟩ := hs.argI; clear hs; subst e_; have hs := h2; clear h2
  obtain ⟨_, e_, h2⟩ := hs.argI; clear hs; subst e_; have hs := h2; clear h2
  obtain ⟨v2, _, e_, h2⟩ := hs.arg; clear hs; subst e_; have hs := h2; clear h2
  obtain ⟨v3, _, e_, h2⟩ := hs.arg; clear hs; subst e_; have hs := h2; clear h2
  obtain ⟨v4, _, e_, h2⟩ := hs.arg; clear hs; subst e_; have hs := h2; clear h2
  obtain ⟨v5, _, e_, h2⟩ := hs.arg; clear hs; subst e_; have hs := h2; clear h2
  obtain ⟨e_, h2⟩ := hs.argN; clear hs; subst e_; have hs := h2; clear h2
  obtain ⟨⟨m2, m8, r1, r16⟩, ⟨⟨z1, z24⟩, zn, znd⟩, mg⟩ := pre
  have lz : (zs.map eDd).length = zs.length := List.length_map _
  tm_at "go"
  rename_i H1 hs1
  clear hs
  refine h_lcT (zs.map eDd) (fun i acc => acc = (zs.take i).map PyData.str) hs1 (fun D acc Z' H' h => by tm_at "dt") rfl (fun D i2 d x2 acc Z3 H9 hd2 hr hacc hz hs9 => ?_) (fun D acc Z3 H9 hr hacc hz hs9 => ?_)
  · obtain ⟨z, he, rfl⟩ := at_map hd2
    have hi2 : i2 < 100000 := by have := (List.getElem?_eq_some_iff.mp he).1; omega
    tm_at "run"
    show _ = _
    rw [_root_.Fr.take_more he, map_snoc, hr]
  rw [lz, List.take_length] at hr
  rw [hr] at hs9
  have hs2 := hs9.freeze .here
  have n1 : zs.length ≤ 24 ∧ (∀ x ∈ zs, isName x = true ∧ x.length ≤ 20) ∧ zs.Nodup := ⟨z24, zn, znd⟩
  clear hs9 hs1
  tm_at "run"
  rename_i H2 hs3
  clear hs2
  obtain ⟨kvs, od, few, b, vb, sqb⟩ := T.cf
  refine ⟨_, kvs, rfl, od, fun p hp => ?_⟩
  have hs4 := hs3.newObj (Kp.new hp) hp (o := .dK kvs) upd_same
  generalize upd H2 p (.dK kvs) = H4 at hs4 ⊢
  have hs4 : Hs K ⟨H, [], Z⟩ (D :: Z3) H4 [.obj p (.dK kvs) true] [([v5], [eDs zs]), ([v3], [.tuple []]), ([v2], [.tuple []])] := by tm_at "wk"
  clear hs3
  tm_at "run"
  refine l_dt (zs.map eDd) (fun i σ H' => ∃ (Z4 : List Addr) (u6 u7 u8 u11 u12 u10 : Option V), σ = [some (.int m), some (.int r), some v2, some v3, some v4, some v5, u6, u7, u8, some (.ref p), u10, u11, u12] ∧ Hs K ⟨H, [], Z⟩ Z4 H' [.obj p (.dK kvs) true] [([v5], [eDs zs]), ([v3], [.tuple []]), ([v2], [.tuple []])]) ?_ ?_ ?_ ?_
  · exact ⟨_, _, _, _, _, _, _, rfl, by tm_at "wk"⟩
  · rintro i σ H' hi ⟨Z4, u6, u7, u8, u11, u12, u10, rfl, hs5⟩
    exact ⟨Z4, by tm_at "dt"⟩
  · rintro i d x σ H5 hd hx ⟨Z4, u6, u7, u8, u11, u12, u10, rfl, hs5⟩
    obtain ⟨z, hz, rfl⟩ := at_map hd
    have hs6 := hs5.fact1 (hx Z4 (by tm_at "dt"))
    obtain ⟨g1, g2⟩ := zn z (List.mem_of_getElem? hz)
    clear hs4 hs5 hx
    have c0 : (Str.ofString "the number of lines of the deed ").length = 32 := by decide +kernel
    have ce : Str.empty.length = 0 := rfl
    tm_at "run"
    rename_i xl _ _ _ H6 hs7
    refine h_disp hs7 fun q H7 hs8 => ?_
    clear hs6 hs7
    tm_at "run"
    refine h_dispE [.inr "r", .inr "j", .inr "k", .inr "n", .inr "i", .inr "l"] (vs := [.int r, .int 0, .int 8, .int m, .int 0, .int 1]) (ds := [.int r, .int 0, .int 8, .int m, .int 0, .int 1]) hs8 .here rfl (by tm_at "dts") rfl (by decide) (by decide +kernel) fun H8 hs9 => ?_
    clear hs8
    have hs9 : Hs K ⟨H, [], Z⟩ Z4 H8 [.dk K q [(.inr "r", .int r), (.inr "j", .int 0), (.inr "k", .int 8), (.inr "n", .int m), (.inr "i", .int 0), (.inr "l", .int 1)] true, .obj p (.dK kvs) true] [([xl], [.tuple [eLn]]), ([x], [eDd z]), ([v5], [eDs zs]), ([v3], [.tuple []]), ([v2], [.tuple []])] := hs9
    tm_at "run"
    refine l_dt [eLn] (fun i σ H' => ∃ u7 u12 : Option V, σ = [some (.int m), some (.int r), some v2, some v3, some v4, some v5, some (.str z), u7, u8, some (.ref p), some xl, some (.ref q), u12] ∧ Hs K ⟨H, [], Z⟩ Z4 H' [.dk K q [(.inr "r", .int r), (.inr "j", .int 0), (.inr "k", .int 8), (.inr "n", .int m), (.inr "i", .int 0), (.inr "l", .int 1)] true, .obj p (.dK kvs) true] [([xl], [.tuple [eLn]]), ([v5], [eDs zs]), ([v3], [.tuple []]), ([v2], [.tuple []])]) ?_ ?_ ?_ ?_
    · exact ⟨_, _, rfl, by tm_at "wk"⟩
    · rintro i σ H' hi ⟨u7, u12, rfl, hs10⟩
      exact ⟨Z4, by tm_at "dt"⟩
    · rintro i d x σ H5 hd hx ⟨u7, u12, rfl, hs10⟩
      have hi : i < 1 := (List.getElem?_eq_some_iff.mp hd).1
      obtain rfl : i = 0 := by omega
      cases hd
      have hs11 := hs10.fact1 (hx Z4 (by tm_at "dt"))
      clear hs9 hs10
      tm_at "run"
      rename_i xi xs1 _ hs12 _ _
      have lm : LmAt q H5 := by
        obtain ⟨r0, e0, dr⟩ := (hs12.get .here : DDk K Z4 H5 q _)
        rcases dr.val (.inr "r") with ⟨_, e2⟩ | ⟨v, d, e1, e2, dv⟩
        · rw [valD_cons, if_pos rfl] at e2
          cases e2
        · rw [valD_cons, if_pos rfl] at e2
          cases e2
          rw [dv.int_inv] at e1
          exact ⟨r0, r, e0, e1, by omega⟩
      refine ⟨Z4, p, q, xi, rfl, hs12.zl, ⟨kvs, b, hs12.obj (.there .here), vb, sqb⟩, lm, by tm_at "dt", fun H9 k9 => ?_⟩
      have hs13 := hs12.same k9
      exact ⟨_, _, rfl, by tm_at "wk"⟩
    · rintro σ H' ⟨u7, u12, rfl, hs10⟩
      tm_at "run"
      rename_i H9 hs11
      exact ⟨_, _, _, _, _, _, _, rfl, by tm_at "wk"⟩
  · rintro σ H' ⟨Z4, u6, u7, u8, u11, u12, u10, rfl, hs5⟩
    tm_at "run"
    tm_at "finv"
    exact k


end



/-! my own steps: rows of tactics, tried from above -/

/-! steps over Hs -/











/-! CodeBook as an object -/
abbrev eMnL (mu : Mns) : PyData := .list (mu.map fun t => .list (t.map eTh))
abbrev eDdL (z : Str) : PyData := .tuple [.str z, .list [eLn]]
abbrev eDsL (zs : List Str) : PyData := .list (zs.map eDdL)
def cbF (m r : Int) (rw pr po de ln : V) : List (Str × V) := [("modulus", .int m), ("registers", .int r), ("rows", rw), ("parts", pr), ("ports", po), ("deeds", de), ("_lines_by_name", ln)]
def CB (K : PySem.W.Frag) (C : Addr) (H : Hp) (p : Addr) (m r : Int) (mu : Mns) (zs : List Str) : Prop := ∃ dx rw pr po de ln, H p = some (.ins C dx (cbF m r rw pr po de ln)) ∧ Dt K [] H rw (.tuple []) ∧ Dt K [] H pr (.tuple []) ∧ Dt K [] H po (eMn mu) ∧ Dt K [] H de (eDs zs)
theorem CB.kp0 {K : PySem.W.Frag} {C p : Addr} {H H' : Hp} {m r : Int} {mu : Mns} {zs : List Str} (k : Kp [] H H') (h : CB K C H p m r mu zs) : CB K C H' p m r mu zs := by
  obtain ⟨dx, rw, pr, po, de, ln, h1, h2, h3, h4, h5⟩ := h
  exact ⟨dx, rw, pr, po, de, ln, k.get0 h1, h2.im k.im, h3.im k.im, h4.im k.im, h5.im k.im⟩
def CdG (m r : Int) (mu : Mns) (zs : List Str) : Prop := (2 ≤ m ∧ m ≤ 8 ∧ 1 ≤ r ∧ r ≤ 16) ∧ NmG zs ∧ MnsG zs m mu
def spInitCB (K : PySem.W.Frag) (C : Addr) : Sp := fun vs H Q _ => ∃ (p dx : Addr) (m r : Int) (Z : List Addr) (v1 v2 v3 v4 : V) (mu : Mns) (zs : List Str), vs = [.ref p, .int m, .int r, v1, v2, v3, v4] ∧ H p = some (.ins C dx []) ∧ p ∉ Z ∧ (∀ z ∈ Z, ∃ o, H z = some o) ∧ Dts K Z H [v1, v2, v3, v4] [.list [], .list [], eMnL mu, eDsL zs] ∧ CdG m r mu zs ∧
  ∀ H', Kp [p] H H' → CB K C H' p m r mu zs → Q .non H'
theorem k_cb {K : PySem.W.Frag} {C : Addr} {m r : Int} {v1 v2 v3 v4 : V} {Z : List Addr} {mu : Mns} {zs : List Str} {H : Hp} {Q : VK} {E : XK} (hz : ∀ z ∈ Z, ∃ o, H z = some o) (q : Dts K Z H [v1, v2, v3, v4] [.list [], .list [], eMnL mu, eDsL zs]) (g : CdG m r mu zs)
    (good : ∀ p H', H p = none → Kp [] H H' → CB K C H' p m r mu zs → Q (.ref p) H') : NewI C (spInitCB K C) ([.int m, .int r, v1, v2, v3, v4] ++ []) H Q E := by
  intro x dx nx ndx ne
  have k1 : Kp [] H (upd (upd H dx (.own x)) x (.ins C dx [])) := Kp.trans (Kp.new ndx) (Kp.new (by rw [upd_ne ne.symm]; exact nx))
  refine ⟨x, dx, m, r, Z, v1, v2, v3, v4, mu, zs, rfl, upd_same, fun z => ?_, fun z h => ?_, q.im k1.im, g, fun H' k cb => ⟨rfl, good x H' nx (Kp.inst nx ndx k) cb⟩⟩
  · obtain ⟨u, e⟩ := hz x z
    rw [e] at nx; cases nx
  · obtain ⟨u, e⟩ := hz z h
    exact ⟨u, k1.get0 e⟩

section
variable {P : Program} {w : World} {K : PySem.W.Frag} {mg : Str → Option Value} {base : Heap} {CPlainBook CCodeBook CStock COddsError CBadShare CBadText CBadBook CBadMove CBadProgram CBadPlan CUnfit CTooLarge CBadEdit CCODE_FORMS CIDLE : Addr}
theorem ok_CodeBook (T : Txt P w K mg CPlainBook CCodeBook CStock COddsError CBadShare CBadText CBadBook CBadMove CBadProgram CBadPlan CUnfit CTooLarge CBadEdit CCODE_FORMS CIDLE) : NcO P w K mg base 5 CCodeBook "CodeBook" ["self", "modulus", "registers", "rows", "parts", "ports", "deeds"] (spInitCB K CCodeBook) := by
  obtain ⟨fi, fd, mk, F⟩ := T.d_initCodeBook
  refine ⟨fi, fd, mk, ?_, T.cb.g, F.binds (fun _ _ _ _ _ _ us hl => match us, hl with | [_, _, _, _, _, _, _], _ => rfl)⟩
  refine F.ok sc_CodeBook___init__ (fun vs H Q E h => by obtain ⟨p, dx, m, r, Z, v1, v2, v3, v4, mu, zs, rfl, _⟩ := h; rfl) fun cdv A outer s0 H vs Q E hr h => ⟨_, (pss_cons (ps_fld (pv 0) (pv 1) rfl)
 (pss_cons (ps_fld (pv 0) (pv 2) rfl)
 (pss_cons (ps_fld (pv 0) (pe_callTy (tupK K) (by rfl) T.n_tuple b_tuple (pa_cons (pe_lc (own := [("row", 9)]) (g := (gName 9)) (tt := tYes) rfl sc_CodeBook___init__.nd (piLK K (pv 3)) (blkOk_by (own := [("row", 9)]) (N := ["self", "modulus", "registers", "rows", "parts", "ports", "deeds", "name", "lines", "row", "plain", "menu"]) (sc := defScope s_CodeBook___init__) (by decide +kernel)) (fun _ _ _ _ _ => (pg_name (i := 9) sc_CodeBook___init__.nd rfl (Or.inl rfl))) (fun _ _ _ _ _ => pts_nil) (fun _ _ _ _ _ => (pe_callTy (tupK K) (by rfl) T.n_tuple b_tuple (pa_cons (pv 9) pa_nil)))) pa_nil)) rfl)
 (pss_cons (ps_fld (pv 0) (pe_callTy (tupK K) (by rfl) T.n_tuple b_tuple (pa_cons (pe_lc (own := [("name", 7), ("plain", 10)]) (g := (gTup K 2 (gCons (gName 7) (gCons (gName 10) gNil)))) (tt := tYes) rfl sc_CodeBook___init__.nd (piLK K (pv 4)) (blkOk_by (own := [("name", 7), ("plain", 10)]) (N := ["self", "modulus", "registers", "rows", "parts", "ports", "deeds", "name", "lines", "row", "plain", "menu"]) (sc := defScope s_CodeBook___init__) (by decide +kernel)) (fun _ _ _ _ _ => (pgTK K 2 (by rfl) (pgs_cons (pg_name (i := 7) sc_CodeBook___init__.nd rfl (Or.inl rfl)) (pgs_cons (pg_name (i := 10) sc_CodeBook___init__.nd rfl (Or.inl rfl)) pgs_nil)))) (fun _ _ _ _ _ => pts_nil) (fun _ _ _ _ _ => (pe_tup (pa_cons (pv 7) (pa_cons (pv 10) pa_nil))))) pa_nil)) rfl)
 (pss_cons (ps_fld (pv 0) (pe_callTy (tupK K) (by rfl) T.n_tuple b_tuple (pa_cons (pe_lc (own := [("menu", 11)]) (g := (gName 11)) (tt := tYes) rfl sc_CodeBook___init__.nd (piLK K (pv 5)) (blkOk_by (own := [("menu", 11)]) (N := ["self", "modulus", "registers", "rows", "parts", "ports", "deeds", "name", "lines", "row", "plain", "menu"]) (sc := defScope s_CodeBook___init__) (by decide +kernel)) (fun _ _ _ _ _ => (pg_name (i := 11) sc_CodeBook___init__.nd rfl (Or.inl rfl))) (fun _ _ _ _ _ => pts_nil) (fun _ _ _ _ _ => (pe_fc (ok_copied_menu T) pass0 (hr.mono (by omega)) (pa_cons (pv 11) pa_nil)))) pa_nil)) rfl)
 (pss_cons (ps_fld (pv 0) (pe_callTy (tupK K) (by rfl) T.n_tuple b_tuple (pa_cons (pe_lc (own := [("name", 7), ("lines", 8)]) (g := (gTup K 2 (gCons (gName 7) (gCons (gName 8) gNil)))) (tt := tYes) rfl sc_CodeBook___init__.nd (piLK K (pv 6)) (blkOk_by (own := [("name", 7), ("lines", 8)]) (N := ["self", "modulus", "registers", "rows", "parts", "ports", "deeds", "name", "lines", "row", "plain", "menu"]) (sc := defScope s_CodeBook___init__) (by decide +kernel)) (fun _ _ _ _ _ => (pgTK K 2 (by rfl) (pgs_cons (pg_name (i := 7) sc_CodeBook___init__.nd rfl (Or.inl rfl)) (pgs_cons (pg_name (i := 8) sc_CodeBook___init__.nd rfl (Or.inl rfl)) pgs_nil)))) (fun _ _ _ _ _ => pts_nil) (fun _ _ _ _ _ => (pe_tup (pa_cons (pv 7) (pa_cons (pe_fc (ok_copied_lines T) pass0 (hr.mono (by omega)) (pa_cons (pv 8) pa_nil)) pa_nil))))) pa_nil)) rfl)
 (pss_cons (ps_expr (pe_fc (ok_check_code T) pass0 (hr.mono (by omega)) (pa_cons (fldK K (pv 0) rfl) (pa_cons (fldK K (pv 0) rfl) (pa_cons (fldK K (pv 0) rfl) (pa_cons (fldK K (pv 0) rfl) (pa_cons (fldK K (pv 0) rfl) (pa_cons (fldK K (pv 0) rfl) pa_nil))))))))
 (pss_one (ps_fld (pv 0) (pe_dc (own := [("name", 7), ("lines", 8)]) (g := (gTup K 2 (gCons (gName 7) (gCons (gName 8) gNil)))) (tt := tYes) rfl sc_CodeBook___init__.nd (piTK K (fldK K (pv 0) rfl)) (blkOk_by (own := [("name", 7), ("lines", 8)]) (N := ["self", "modulus", "registers", "rows", "parts", "ports", "deeds", "name", "lines", "row", "plain", "menu"]) (sc := defScope s_CodeBook___init__) (by decide +kernel)) (fun _ _ _ _ _ => (pgTK K 2 (by rfl) (pgs_cons (pg_name (i := 7) sc_CodeBook___init__.nd rfl (Or.inl rfl)) (pgs_cons (pg_name (i := 8) sc_CodeBook___init__.nd rfl (Or.inl rfl)) pgs_nil)))) (fun _ _ _ _ _ => pts_nil) (fun _ _ _ _ _ => (pv 7)) (fun _ _ _ _ _ => (pv 8))) rfl))))))))), ?_⟩
  obtain ⟨p, dx, m, r, Z, v1, v2, v3, v4, mu, zs, rfl, hp, pz, zl, hv, g, good⟩ := h
  have hs : Hs K ⟨H, [p], Z⟩ Z H [.obj p (.ins CCodeBook dx []) true] [([v1, v2, v3, v4], [.list [], .list [], eMnL mu, eDsL zs])] := ((Hs.start (fun b hb => by rw [one_mem hb]; exact ⟨_, hp⟩) zl).ent (.obj p (.ins CCodeBook dx []) true) hp (fun _ z => by cases z) (fun b hb => by rw [one_mem hb]; exact pz) (fun _ b hb => .inl hb)).fact hv
  obtain ⟨_, _, e_, h2⟩ := hs.arg
  cases e_; clear hs; have hs := h2; clear h2
  obtain ⟨_, _, e_, h2⟩ := hs.arg
  cases e_; clear hs; have hs := h2; clear h2
  obtain ⟨_, _, e_, h2⟩ := hs.arg
  cases e_; clear hs; have hs := h2; clear h2
  obtain ⟨_, _, e_, h2⟩ := hs.arg
  cases e_; clear hs; have hs := h2.tl; clear h2
  obtain ⟨⟨m2, m8, r1, r16⟩, ⟨⟨z1, z24⟩, zn, znd⟩, ⟨mu1, mu8⟩, mg⟩ := id g
  have lm : (mu.map fun t => PyData.list (t.map eTh)).length = mu.length := List.length_map _
  have lz : (zs.map eDdL).length = zs.length := List.length_map _
  tm_at "go"
  refine h_sfN [] [("modulus", .int m)] T.cb.cl T.cb.n1 hs .here rfl (by decide) (by decide) rfl fun H1 hs1 => ?_
  clear hs
  tm_at "run"
  refine h_sfN ["modulus"] [("modulus", .int m), ("registers", .int r)] T.cb.cl T.cb.n2 hs1 .here rfl (by decide +kernel) (by decide) rfl fun H2 hs2 => ?_
  clear hs1
  tm_at "run"
  refine h_lcL [] (fun i acc => acc = []) hs2 (fun D acc Z' H' h => by tm_at "lr") rfl (fun D i d x acc Z' H' hd => by cases hd) (fun D acc Z3 H9 hr hacc hz hs9 => ?_)
  rw [hr] at hs9
  clear hs2
  tm_at "run"
  rename_i pr Hr hsr
  refine h_sfN ["modulus", "registers"] [("modulus", .int m), ("registers", .int r), ("rows", .ref pr)] T.cb.cl T.cb.n3 hsr (.there .here) rfl (by decide +kernel) (by decide) rfl fun H3 hs3 => ?_
  have hs3 : Hs K ⟨H, [p], Z⟩ Z3 H3 [.obj p (.ins CCodeBook dx [("modulus", .int m), ("registers", .int r), ("rows", .ref pr)]) true] [([.ref pr], [.tuple []]), ([v4], [eDsL zs]), ([v3], [eMnL mu]), ([v2], [.list []])] := by tm_at "wk"
  clear hs9 hsr
  tm_at "run"
  refine h_lcL [] (fun i acc => acc = []) hs3 (fun D acc Z' H' h => by tm_at "lr") rfl (fun D i d x acc Z' H' hd => by cases hd) (fun D acc Z4 H9 hr hacc hz4 hs9 => ?_)
  rw [hr] at hs9
  clear hs3
  tm_at "run"
  rename_i pp Hr hsr
  refine h_sfN ["modulus", "registers", "rows"] [("modulus", .int m), ("registers", .int r), ("rows", .ref pr), ("parts", .ref pp)] T.cb.cl T.cb.n4 hsr (.there .here) rfl (by decide +kernel) (by decide) rfl fun H4 hs4 => ?_
  have hs4 : Hs K ⟨H, [p], Z⟩ Z4 H4 [.obj p (.ins CCodeBook dx [("modulus", .int m), ("registers", .int r), ("rows", .ref pr), ("parts", .ref pp)]) true] [([.ref pp], [.tuple []]), ([.ref pr], [.tuple []]), ([v4], [eDsL zs]), ([v3], [eMnL mu])] := by tm_at "wk"
  clear hs9 hsr
  tm_at "run"
  refine h_lcL (mu.map fun t => PyData.list (t.map eTh)) (fun i acc => acc = (mu.take i).map fun t => PyData.tuple (t.map eTh)) hs4 (fun D acc Z' H' h => by tm_at "lr") rfl (fun D i2 d x2 acc Z3 H9 hd2 hr hacc hz hs9 => ?_) (fun D acc Z5 H9 hr hacc hz5 hs9 => ?_)
  · obtain ⟨t, he, rfl⟩ := at_map hd2
    have hi2 : i2 < 100000 := by have := (List.getElem?_eq_some_iff.mp he).1; omega
    have ht : t.length ≤ 40 := by have := (mg t (List.mem_of_getElem? he)).1; omega
    clear hs4
    tm_at "run"
    show _ = _
    rw [_root_.Fr.take_more he, List.map_append, hr]
    rfl
  rw [lm, List.take_length] at hr
  rw [hr] at hs9
  clear hs4
  tm_at "run"
  rename_i po Hr hsr
  refine h_sfN ["modulus", "registers", "rows", "parts"] [("modulus", .int m), ("registers", .int r), ("rows", .ref pr), ("parts", .ref pp), ("ports", .ref po)] T.cb.cl T.cb.n5 hsr (.there .here) rfl (by decide +kernel) (by decide) rfl fun H5 hs5 => ?_
  have hs5 : Hs K ⟨H, [p], Z⟩ Z5 H5 [.obj p (.ins CCodeBook dx [("modulus", .int m), ("registers", .int r), ("rows", .ref pr), ("parts", .ref pp), ("ports", .ref po)]) true] [([.ref po], [eMn mu]), ([.ref pp], [.tuple []]), ([.ref pr], [.tuple []]), ([v4], [eDsL zs])] := by tm_at "wk"
  clear hs9 hsr
  tm_at "run"
  refine h_lcL (zs.map eDdL) (fun i acc => acc = (zs.take i).map eDd) hs5 (fun D acc Z' H' h => by tm_at "lr") rfl (fun D i2 d x2 acc Z3 H9 hd2 hr hacc hz hs9 => ?_) (fun D acc Z6 H9 hr hacc hz6 hs9 => ?_)
  · obtain ⟨t, he, rfl⟩ := at_map hd2
    have hi2 : i2 < 100000 := by have := (List.getElem?_eq_some_iff.mp he).1; omega
    clear hs5
    tm_at "run"
    show _ = _
    rw [_root_.Fr.take_more he, map_snoc, hr]
  rw [lz, List.take_length] at hr
  rw [hr] at hs9
  clear hs5
  tm_at "run"
  rename_i pd Hr hsr
  refine h_sfN ["modulus", "registers", "rows", "parts", "ports"] [("modulus", .int m), ("registers", .int r), ("rows", .ref pr), ("parts", .ref pp), ("ports", .ref po), ("deeds", .ref pd)] T.cb.cl T.cb.n6 hsr (.there .here) rfl (by decide +kernel) (by decide) rfl fun H6 hs6 => ?_
  have hs6 : Hs K ⟨H, [p], Z⟩ Z6 H6 [.obj p (.ins CCodeBook dx [("modulus", .int m), ("registers", .int r), ("rows", .ref pr), ("parts", .ref pp), ("ports", .ref po), ("deeds", .ref pd)]) true] [([.ref pd], [eDs zs]), ([.ref po], [eMn mu]), ([.ref pp], [.tuple []]), ([.ref pr], [.tuple []])] := by tm_at "wk"
  clear hs9 hsr
  tm_at "run"
  refine h_fldI 0 [] T.cb.cl T.cb.n1 hs6 .here rfl rfl (by decide) ?_
  tm_at "run"
  refine h_fldI 1 ["modulus"] T.cb.cl T.cb.n2 hs6 .here rfl rfl (by decide +kernel) ?_
  tm_at "run"
  refine h_fldI 2 ["modulus", "registers"] T.cb.cl T.cb.n3 hs6 .here rfl rfl (by decide +kernel) ?_
  tm_at "run"
  refine h_fldI 3 ["modulus", "registers", "rows"] T.cb.cl T.cb.n4 hs6 .here rfl rfl (by decide +kernel) ?_
  tm_at "run"
  refine h_fldI 4 ["modulus", "registers", "rows", "parts"] T.cb.cl T.cb.n5 hs6 .here rfl rfl (by decide +kernel) ?_
  tm_at "run"
  refine h_fldI 5 ["modulus", "registers", "rows", "parts", "ports"] T.cb.cl T.cb.n6 hs6 .here rfl rfl (by decide +kernel) ?_
  have gg : (2 ≤ m ∧ m ≤ 8 ∧ 1 ≤ r ∧ r ≤ 16) ∧ NmG zs ∧ MnsG zs m mu := g
  tm_at "run"
  rename_i H7 hs7
  refine h_fldI 5 ["modulus", "registers", "rows", "parts", "ports"] T.cb.cl T.cb.n6 hs7 .here rfl rfl (by decide +kernel) ?_
  have lz : (zs.map eDd).length = zs.length := List.length_map _
  tm_at "run"
  refine h_dc (zs.map eDd) src_dt (fun i acc => True) hs7 (fun D acc Z' H' h => by tm_at "dt") trivial (fun D i2 d x2 acc Z3 H9 hd2 hr hacc hz hs9 => ?_) (fun D acc Z7 H9 hr hacc hz7 hs9 => ?_)
  · obtain ⟨t, he, rfl⟩ := at_map hd2
    have hi2 : i2 < 100000 := by have := (List.getElem?_eq_some_iff.mp he).1; omega
    clear hs7 hs6
    tm_at "run"
    rename_i xl _ _ hsn
    exact dcE (.inr t) hsn.tl.tl hz hacc (by omega) (show Dt K Z3 H9 xl (.tuple [eLn]) from by tm_at "dt") trivial
  clear hs7 hs6
  tm_at "run"
  refine h_sfN ["modulus", "registers", "rows", "parts", "ports", "deeds"] [("modulus", .int m), ("registers", .int r), ("rows", .ref pr), ("parts", .ref pp), ("ports", .ref po), ("deeds", .ref pd), ("_lines_by_name", .ref D)] T.cb.cl T.cb.n7 hs9 (.there .here) rfl (by decide +kernel) (by decide) rfl fun H8 hs8 => ?_
  refine good H8 hs8.kp ⟨dx, _, _, _, _, _, hs8.obj (.there .here), dt_noZ _ _ rfl (show Dt K Z7 H8 (.ref pr) (.tuple []) from by tm_at "dt"), dt_noZ _ _ rfl (show Dt K Z7 H8 (.ref pp) (.tuple []) from by tm_at "dt"), dt_noZ _ _ (noLs_map _ (fun t => by simpa [noL] using noLs_map eTh (fun _ => rfl) t) mu) (show Dt K Z7 H8 (.ref po) (eMn mu) from by tm_at "dt"), dt_noZ _ _ (noLs_map eDd (fun _ => rfl) zs) (show Dt K Z7 H8 (.ref pd) (eDs zs) from by tm_at "dt")⟩


end



/-! my own steps: rows of tactics, tried from above -/

/-! steps over Hs -/











/-! Stock, the law's code, real things -/
def spInitSk (K : PySem.W.Frag) (C : Addr) : Sp := fun vs H Q _ => ∃ (p dx : Addr) (c pl : V), vs = [.ref p, c, pl] ∧ H p = some (.ins C dx []) ∧ ∀ H', Kp [p] H H' → H' p = some (.ins C dx [("code", c), ("plain", pl)]) → Q .non H'
theorem k_sk {C : Addr} {K : PySem.W.Frag} {c pl : V} {H : Hp} {Q : VK} {E : XK} (good : ∀ p dx H', H p = none → Kp [] H H' → H' p = some (.ins C dx [("code", c), ("plain", pl)]) → Q (.ref p) H') : NewI C (spInitSk K C) ([c, pl] ++ []) H Q E := by
  intro x dx nx ndx ne
  exact ⟨x, dx, c, pl, rfl, upd_same, fun H' k e => ⟨rfl, good x dx H' nx (Kp.inst nx ndx k) e⟩⟩
/-- a stock whole -/
def SK (K : PySem.W.Frag) (CS CC CP : Addr) (H : Hp) (p : Addr) (m r : Int) (mu : Mns) (zs : List Str) (s f : Int) (cs : List Ch) : Prop := ∃ dx cp pp o, H p = some (.ins CS dx [("code", .ref cp), ("plain", .ref pp)]) ∧ CB K CC H cp m r mu zs ∧ PB K CP H pp o s f cs
theorem SK.kp0 {K : PySem.W.Frag} {CS CC CP p : Addr} {H H' : Hp} {m r s f : Int} {mu : Mns} {zs : List Str} {cs : List Ch} (k : Kp [] H H') (h : SK K CS CC CP H p m r mu zs s f cs) : SK K CS CC CP H' p m r mu zs s f cs := by
  obtain ⟨dx, cp, pp, o, h1, h2, h3⟩ := h
  exact ⟨dx, cp, pp, o, k.get0 h1, h2.kp0 k, h3.kp0 k⟩
def spFirst (K : PySem.W.Frag) (CS CC CP : Addr) : Sp := fun vs H Q _ => ∃ (p : Addr) (m r : Int) (mu : Mns) (zs : List Str) (s f : Int) (cs : List Ch), vs = [.ref p] ∧ SK K CS CC CP H p m r mu zs s f cs ∧ (1 ≤ mu.length ∧ mu.length ≤ 8) ∧
  ∀ v H', Kp [] H H' → Dt K [] H' v (eS f (List.replicate mu.length .idle)) → Q v H'
/-- a code of the law -/
def CdAt (K : PySem.W.Frag) (v : V) (m r : Int) (mu : Mns) (zs : List Str) (Z : List Addr) (H : Hp) : Prop := ∃ (p : Addr) (v1 v2 v3 v4 o : V), v = .ref p ∧ H p = some (.tup [.int m, .int r, v1, v2, v3, v4, o]) ∧ Dts K Z H [v1, v2, v3, v4] [.tuple [], .tuple [], eMn mu, eDs zs]
theorem cd_stay {K : PySem.W.Frag} {v : V} {m r : Int} {mu : Mns} {zs : List Str} : Stay (CdAt K v m r mu zs) where
  im := fun Z H H' ⟨p, v1, v2, v3, v4, o, e, h1, h2⟩ i => ⟨p, v1, v2, v3, v4, o, e, i.1 _ _ h1, h2.im i⟩
  zs := fun Z Z' H i ⟨p, v1, v2, v3, v4, o, e, h1, h2⟩ => ⟨p, v1, v2, v3, v4, o, e, h1, h2.zs i⟩
def spLCode (K : PySem.W.Frag) : Sp := fun vs H Q _ => ∃ (Z : List Addr) (m r : Int) (v1 v2 v3 v4 : V) (mu : Mns) (zs : List Str), vs = [.int m, .int r, v1, v2, v3, v4] ∧ (∀ z ∈ Z, ∃ o, H z = some o) ∧ Dts K Z H [v1, v2, v3, v4] [.tuple [], .tuple [], eMn mu, eDs zs] ∧ zs.length ≤ 24 ∧
  ∀ x H', Kp [] H H' → CdAt K x m r mu zs Z H' → Q x H'
def spLRP (K : PySem.W.Frag) (C : Addr) : Sp := fun vs H Q _ => ∃ (Z : List Addr) (t f : Int) (cs : List Ch) (x : V), vs = [x] ∧ (∀ z ∈ Z, ∃ o, H z = some o) ∧ PlAt K x t f cs Z H ∧ Sml 200 cs ∧ isBook t f cs = true ∧
  ∀ p o H', Kp [] H H' → H p = none → H o = none → PB K C H' p o t f cs → Q (.ref p) H'
local macro_rules | `(tactic| tm_at "step") => `(tactic| first | (with_reducible refine u_newI ?_) | fail)
theorem rep_map {α : Type} (f : α → PyData) (x : α) (n : Nat) : repD n [f x] = (List.replicate n x).map f := by
  unfold repD
  induction n with
  | zero => rfl
  | succ n ih => rw [List.replicate_succ, List.flatten_cons, ih, List.replicate_succ]; rfl

section
variable {P : Program} {w : World} {K : PySem.W.Frag} {mg : Str → Option Value} {base : Heap} {CPlainBook CCodeBook CStock COddsError CBadShare CBadText CBadBook CBadMove CBadProgram CBadPlan CUnfit CTooLarge CBadEdit CCODE_FORMS CIDLE : Addr}
theorem ok_Stock (T : Txt P w K mg CPlainBook CCodeBook CStock COddsError CBadShare CBadText CBadBook CBadMove CBadProgram CBadPlan CUnfit CTooLarge CBadEdit CCODE_FORMS CIDLE) : NcO P w K mg base 1 CStock "Stock" ["self", "code", "plain"] (spInitSk K CStock) := by
  obtain ⟨fi, fd, mk, F⟩ := T.d_initStock
  refine ⟨fi, fd, mk, ?_, T.sk.g, F.binds (fun _ _ _ _ _ _ us hl => match us, hl with | [_, _, _], _ => rfl)⟩
  refine F.ok sc_Stock___init__ (fun vs H Q E h => by obtain ⟨p, dx, c, pl, rfl, _⟩ := h; rfl) fun cdv A outer s0 H vs Q E hr h => ⟨_, (pss_cons (ps_fld (pv 0) (pv 1) rfl)
 (pss_one (ps_fld (pv 0) (pv 2) rfl))), ?_⟩
  obtain ⟨p, dx, c, pl, rfl, hp, good⟩ := h
  have hs : Hs K ⟨H, [p], []⟩ [] H [.obj p (.ins CStock dx []) true] [] := ((Hs.start (fun b hb => by rw [one_mem hb]; exact ⟨_, hp⟩) (fun _ z => by cases z)).ent (.obj p (.ins CStock dx []) true) hp (fun _ z => by cases z) (fun b hb => fun z => by cases z) (fun _ b hb => .inl hb))
  tm_at "go"
  refine h_sfN [] [("code", c)] T.sk.cl T.sk.n1 hs .here rfl (by decide) (by decide) rfl fun H1 hs1 => ?_
  tm_at "run"
  refine h_sfN ["code"] [("code", c), ("plain", pl)] T.sk.cl T.sk.n2 hs1 .here rfl (by decide +kernel) (by decide) rfl fun H2 hs2 => ?_
  exact good H2 hs2.kp (hs2.obj .here)
theorem ok_first_plain (T : Txt P w K mg CPlainBook CCodeBook CStock COddsError CBadShare CBadText CBadBook CBadMove CBadProgram CBadPlan CUnfit CTooLarge CBadEdit CCODE_FORMS CIDLE) : Fc P w K mg base CX0 1 "first_plain" ["stock"] (spFirst K CStock CCodeBook CPlainBook) := by
  refine fc_of T.d_first_plain sc_first_plain (fun vs H Q E h => by obtain ⟨p, m, r, mu, zs, s, f, cs, rfl, ⟨dx, cp, pp, o, h1, ⟨dc, rw, pr, po, de, ln, c1, c2, c3, c4, c5⟩, ⟨dy, ch, sd, p1, p2, p3, p4⟩⟩, ⟨m1, m8⟩, k⟩ := h; rfl) (fun _ _ _ _ _ _ us hl => match us, hl with | [_], _ => rfl) fun f cdv A outer s H vs Q E hr h => ⟨_, (pss_one (ps_ret (pe_tup (pa_cons (fldK K (fldK K (pv 0) rfl) rfl) (pa_cons (pe_op (repHK K) (pe_tup (pa_cons (pe_tup pa_nil) pa_nil)) (pe_callB (lenK K) (by rfl) T.n_len b_len (pa_cons (fldK K (fldK K (pv 0) rfl) rfl) pa_nil))) pa_nil))))), ?_⟩
  obtain ⟨p, m, r, mu, zs, s, f, cs, rfl, ⟨dx, cp, pp, o, h1, ⟨dc, rw, pr, po, de, ln, c1, c2, c3, c4, c5⟩, ⟨dy, ch, sd, p1, p2, p3, p4⟩⟩, ⟨m1, m8⟩, k⟩ := h
  have hs : Hs K ⟨H, [], []⟩ [] H [] [([po], [eMn mu])] := (Hs.start (fun _ z => by cases z) (fun _ z => by cases z)).fact1 c4
  tm_at "go"
  refine fld_of T.sk.cl T.sk.n2 h1 (lk_of 1 ["code"] rfl rfl (by decide +kernel)) ?_
  tm_at "run"
  refine fld_of T.pb.cl T.pb.n2 p1 pb_l2 ?_
  tm_at "run"
  rename_i q1 H1 hs1 q2 H2 hs2
  have lm : (mu.map fun t => PyData.tuple (t.map eTh)).length = mu.length := List.length_map _
  refine fld_of T.sk.cl T.sk.n1 (hs2.kp.get0 h1) (lk_of 0 [] rfl rfl (by decide)) ?_
  refine fld_of T.cb.cl T.cb.n5 (hs2.kp.get0 c1) (lk_of 4 ["modulus", "registers", "rows", "parts"] rfl rfl (by decide +kernel)) ?_
  tm_at "run"
  refine h_repH hs2 (show Dt K [] H2 (.ref q2) (.tuple [.tuple []]) from by tm_at "dt") (by simp) (by omega) (by omega) (by decide) fun x H3 hs3 => ?_
  have en : (((mu.map fun t => PyData.tuple (t.map eTh)).length : Nat) : Int).toNat = mu.length := by omega
  rw [en, rep_map eM .idle mu.length] at hs3
  tm_at "run"
  rename_i q4 H4 hs4
  exact k _ _ hs4.kp (by tm_at "dt")
theorem ok_l_code (T : Txt P w K mg CPlainBook CCodeBook CStock COddsError CBadShare CBadText CBadBook CBadMove CBadProgram CBadPlan CUnfit CTooLarge CBadEdit CCODE_FORMS CIDLE) : Fc P w K mg base CX0 1 "_law_code" ["modulus", "many", "rows", "books", "ports", "deeds"] (spLCode K) := by
  refine fc_of T.d_l_code sc_l_code (fun vs H Q E h => by obtain ⟨Z, m, r, v1, v2, v3, v4, mu, zs, rfl, zl, dv, z24, k⟩ := h; rfl) (fun _ _ _ _ _ _ us hl => match us, hl with | [_, _, _, _, _, _], _ => rfl) fun f cdv A outer s H vs Q E hr h => ⟨_, (pss_cons (ps_set (i := 6) sc_l_code.nd rfl (Or.inl rfl) pe_dnewK)
 (pss_cons (ps_for PassesOwn.never rfl (piTK K (pv 5)) (pg_name (i := 7) sc_l_code.nd rfl (Or.inl rfl))
 (pss_one (ps_dput (hu_of hr) (pv 6) (pe_ix (ixtK K) (pv 7) pe_int (fun _ _ => rfl)) (pe_ix (ixtK K) (pv 7) pe_int (fun _ _ => rfl)) rfl)))
 (pss_one (ps_ret (pe_tup (pa_cons (pv 0) (pa_cons (pv 1) (pa_cons (pv 2) (pa_cons (pv 3) (pa_cons (pv 4) (pa_cons (pv 5) (pa_cons (pv 6) pa_nil)))))))))))), ?_⟩
  obtain ⟨Z, m, r, v1, v2, v3, v4, mu, zs, rfl, zl, dv, z24, k⟩ := h
  have hs : Hs K ⟨H, [], Z⟩ Z H [] [([v1, v2, v3, v4], [.tuple [], .tuple [], eMn mu, eDs zs])] := (Hs.start (fun _ z => by cases z) zl).fact dv
  obtain ⟨_, _, e_, h2⟩ := hs.arg
  cases e_; clear hs; have hs := h2; clear h2
  obtain ⟨_, _, e_, h2⟩ := hs.arg
  cases e_; clear hs; have hs := h2; clear h2
  obtain ⟨_, _, e_, h2⟩ := hs.arg
  cases e_; clear hs; have hs := h2; clear h2
  obtain ⟨_, _, e_, h2⟩ := hs.arg
  cases e_; clear hs; have hs := h2.tl; clear h2
  have lz : (zs.map eDd).length = zs.length := List.length_map _
  tm_at "go"
  refine h_dnewK hs fun o H1 hs1 => ?_
  clear hs
  tm_at "run"
  refine l_dt (zs.map eDd) (fun i σ H' => ∃ (s : List (Key × PyData)) (u7 : Option V), s.length ≤ i ∧ σ = [some (.int m), some (.int r), some v1, some v2, some v3, some v4, some (.ref o), u7] ∧ Hs K ⟨H, [], Z⟩ Z H' [.dk K o s true] [([v4], [eDs zs]), ([v3], [eMn mu]), ([v2], [.tuple []]), ([v1], [.tuple []])]) ?_ ?_ ?_ ?_
  · exact ⟨[], _, Nat.le_refl _, rfl, hs1⟩
  · rintro i σ H' hi ⟨s, u7, ls, rfl, hs2⟩
    exact ⟨Z, by tm_at "dt"⟩
  · rintro i d x σ H5 hd hx ⟨s, u7, ls, rfl, hs2⟩
    obtain ⟨z, hz, rfl⟩ := at_map hd
    have hi : i < zs.length := (List.getElem?_eq_some_iff.mp hz).1
    have hs3 := hs2.fact1 (hx Z (by tm_at "dt"))
    clear hs1 hs2 hx
    tm_at "run"
    rename_i xl _ hs4
    refine h_dkP (.inr z) hs4 .here (show Dt K Z H5 xl (.tuple [eLn]) from by tm_at "dt") (by omega) fun H6 hs5 => ?_
    exact ⟨_, _, Nat.le_trans (putD_len _ _ _) (Nat.add_le_add_right ls 1), rfl, by tm_at "wk"⟩
  · rintro σ H' ⟨s, u7, ls, rfl, hs2⟩
    clear hs1
    tm_at "run"
    rename_i p Hp hsp
    exact k _ _ hsp.kp ⟨p, v1, v2, v3, v4, .ref o, rfl, hsp.obj .here, by tm_at "dts"⟩
theorem ok_l_real_plain (T : Txt P w K mg CPlainBook CCodeBook CStock COddsError CBadShare CBadText CBadBook CBadMove CBadProgram CBadPlan CUnfit CTooLarge CBadEdit CCODE_FORMS CIDLE) : Fc P w K mg base CX0 5 "_law_real_plain" ["plain"] (spLRP K CPlainBook) := by
  refine fc_of T.d_l_real_plain sc_l_real_plain (fun vs H Q E h => by obtain ⟨Z, t, f, cs, x, rfl, zl, ⟨p, c, o, s, rfl, hp, dc, fz, gl⟩, pre, gb, k⟩ := h; rfl) (fun _ _ _ _ _ _ us hl => match us, hl with | [_], _ => rfl) fun f cdv A outer s H vs Q E hr h => ⟨_, (pss_one (ps_ret (pe_pb (ok_PlainBook T) (passAll passL) (hr.mono (by omega)) (pa_cons (pe_ix (ixtK K) (pv 0) pe_int (fun _ _ => rfl)) (pa_cons (pe_ix (ixtK K) (pv 0) pe_int (fun _ _ => rfl)) (pa_cons (pe_callTy (listK K) (by rfl) T.n_list b_list (pa_cons (pe_ix (ixtK K) (pv 0) pe_int (fun _ _ => rfl)) pa_nil)) pa_nil)))))), ?_⟩
  obtain ⟨Z, t, f, cs, x, rfl, zl, ⟨p, c, o, s, rfl, hp, dc, fz, gl⟩, pre, gb, k⟩ := h
  have hs : Hs K ⟨H, [], Z⟩ Z H [.fa (TupF p [.int t, .int f, c, .ref o]) tf_stay] [([c], [.tuple (cs.map eCh)])] :=
    ((Hs.start (fun _ z => by cases z) zl).fa (Φ := TupF p [.int t, .int f, c, .ref o]) tf_stay hp).fact1 dc
  tm_at "go"
  rename_i q H1 hs1
  have hs2 := hs1.freeze .here
  refine k_pb (how := 1) hs2.zl (show Dt K (q :: Z) H1 (.ref q) (.list (cs.map eCh)) from by tm_at "dt") pre (fun b => by rw [gb] at b; cases b) fun _ p2 o2 H2 n1 n2 k2 pb => ?_
  exact k p2 o2 H2 (hs2.kp.trans k2) (hs2.free n1) (hs2.free n2) pb


end



/-! my own steps: rows of tactics, tried from above -/

/-! steps over Hs -/











def spLRC (K : PySem.W.Frag) (C : Addr) : Sp := fun vs H Q _ => ∃ (Z : List Addr) (m r : Int) (mu : Mns) (zs : List Str) (x : V), vs = [x] ∧ (∀ z ∈ Z, ∃ o, H z = some o) ∧ CdAt K x m r mu zs Z H ∧ CdG m r mu zs ∧
  ∀ p H', H p = none → Kp [] H H' → CB K C H' p m r mu zs → Q (.ref p) H'
/-- a stock of the law -/
def StAt (K : PySem.W.Frag) (v : V) (m r : Int) (mu : Mns) (zs : List Str) (t f : Int) (cs : List Ch) (Z : List Addr) (H : Hp) : Prop := ∃ (p : Addr) (c x : V), v = .ref p ∧ H p = some (.tup [c, x]) ∧ CdAt K c m r mu zs Z H ∧ PlAt K x t f cs Z H
theorem st_stay {K : PySem.W.Frag} {v : V} {m r : Int} {mu : Mns} {zs : List Str} {t f : Int} {cs : List Ch} : Stay (StAt K v m r mu zs t f cs) where
  im := fun Z H H' ⟨p, c, x, e, h1, h2, h3⟩ i => ⟨p, c, x, e, i.1 _ _ h1, cd_stay.im _ _ _ h2 i, pl_stay.im _ _ _ h3 i⟩
  zs := fun Z Z' H i ⟨p, c, x, e, h1, h2, h3⟩ => ⟨p, c, x, e, h1, cd_stay.zs _ _ _ i h2, pl_stay.zs _ _ _ i h3⟩
def spLReal (K : PySem.W.Frag) (CS CC CP : Addr) : Sp := fun vs H Q _ => ∃ (Z : List Addr) (m r : Int) (mu : Mns) (zs : List Str) (t f : Int) (cs : List Ch) (v : V), vs = [v] ∧ (∀ z ∈ Z, ∃ o, H z = some o) ∧ StAt K v m r mu zs t f cs Z H ∧ CdG m r mu zs ∧ Sml 200 cs ∧ isBook t f cs = true ∧
  ∀ p H', H p = none → Kp [] H H' → SK K CS CC CP H' p m r mu zs t f cs → Q (.ref p) H'

section
variable {P : Program} {w : World} {K : PySem.W.Frag} {mg : Str → Option Value} {base : Heap} {CPlainBook CCodeBook CStock COddsError CBadShare CBadText CBadBook CBadMove CBadProgram CBadPlan CUnfit CTooLarge CBadEdit CCODE_FORMS CIDLE : Addr}
theorem ok_l_real_code (T : Txt P w K mg CPlainBook CCodeBook CStock COddsError CBadShare CBadText CBadBook CBadMove CBadProgram CBadPlan CUnfit CTooLarge CBadEdit CCODE_FORMS CIDLE) : Fc P w K mg base CX0 7 "_law_real_code" ["code"] (spLRC K CCodeBook) := by
  refine fc_of T.d_l_real_code sc_l_real_code (fun vs H Q E h => by obtain ⟨Z, m, r, mu, zs, x, rfl, zl, ⟨p, v1, v2, v3, v4, o, rfl, hp, dv⟩, g, k⟩ := h; rfl) (fun _ _ _ _ _ _ us hl => match us, hl with | [_], _ => rfl) fun f cdv A outer s H vs Q E hr h => ⟨_, (pss_cons (ps_setLc (i := 1) (own := [("book", 4)]) (g := (gName 4)) (tt := tYes) rfl sc_l_real_code.nd rfl rfl (sw_true rfl rfl rfl (by decide +kernel)) (piTK K (pe_ix (ixtK K) (pv 0) pe_int (fun _ _ => rfl))) (blkOk_by (own := [("book", 4)]) (N := ["code", "books", "menus", "deeds", "book", "menu", "deed", "row"]) (sc := defScope s_l_real_code) (by decide +kernel)) (fun _ _ _ _ _ => (pg_name (i := 4) sc_l_real_code.nd rfl (Or.inl rfl))) (fun _ _ _ _ _ => pts_nil) (fun _ _ _ _ _ => (pe_tup (pa_cons (pe_ix (ixAK K) (pv 4) pe_int (fun _ _ => rfl)) (pa_cons (pe_fc (ok_l_real_plain T) pass0 (hr.mono (by omega)) (pa_cons (pe_ix (ixAK K) (pv 4) pe_int (fun _ _ => rfl)) pa_nil)) pa_nil)))))
 (pss_cons (ps_setLc (i := 2) (own := [("menu", 5)]) (g := (gName 5)) (tt := tYes) rfl sc_l_real_code.nd rfl rfl (sw_true rfl rfl rfl (by decide +kernel)) (piTK K (pe_ix (ixtK K) (pv 0) pe_int (fun _ _ => rfl))) (blkOk_by (own := [("menu", 5)]) (N := ["code", "books", "menus", "deeds", "book", "menu", "deed", "row"]) (sc := defScope s_l_real_code) (by decide +kernel)) (fun _ _ _ _ _ => (pg_name (i := 5) sc_l_real_code.nd rfl (Or.inl rfl))) (fun _ _ _ _ _ => pts_nil) (fun _ _ _ _ _ => (pe_callTy (listK K) (by rfl) T.n_list b_list (pa_cons (pv 5) pa_nil))))
 (pss_cons (ps_setLc (i := 3) (own := [("deed", 6)]) (g := (gName 6)) (tt := tYes) rfl sc_l_real_code.nd rfl rfl (sw_true rfl rfl rfl (by decide +kernel)) (piTK K (pe_ix (ixtK K) (pv 0) pe_int (fun _ _ => rfl))) (blkOk_by (own := [("deed", 6)]) (N := ["code", "books", "menus", "deeds", "book", "menu", "deed", "row"]) (sc := defScope s_l_real_code) (by decide +kernel)) (fun _ _ _ _ _ => (pg_name (i := 6) sc_l_real_code.nd rfl (Or.inl rfl))) (fun _ _ _ _ _ => pts_nil) (fun _ _ _ _ _ => (pe_tup (pa_cons (pe_ix (ixtK K) (pv 6) pe_int (fun _ _ => rfl)) (pa_cons (pe_callTy (listK K) (by rfl) T.n_list b_list (pa_cons (pe_ix (ixtK K) (pv 6) pe_int (fun _ _ => rfl)) pa_nil)) pa_nil)))))
 (pss_one (ps_ret (pe_nco (ok_CodeBook T) (passAll pass0) (hr.mono (by omega)) (pa_cons (pe_ix (ixtK K) (pv 0) pe_int (fun _ _ => rfl)) (pa_cons (pe_ix (ixtK K) (pv 0) pe_int (fun _ _ => rfl)) (pa_cons (pe_lc (own := [("row", 7)]) (g := (gName 7)) (tt := tYes) rfl sc_l_real_code.nd (piTK K (pe_ix (ixtK K) (pv 0) pe_int (fun _ _ => rfl))) (blkOk_by (own := [("row", 7)]) (N := ["code", "books", "menus", "deeds", "book", "menu", "deed", "row"]) (sc := defScope s_l_real_code) (by decide +kernel)) (fun _ _ _ _ _ => (pg_name (i := 7) sc_l_real_code.nd rfl (Or.inl rfl))) (fun _ _ _ _ _ => pts_nil) (fun _ _ _ _ _ => (pe_callTy (listK K) (by rfl) T.n_list b_list (pa_cons (pv 7) pa_nil)))) (pa_cons (pv 1) (pa_cons (pv 2) (pa_cons (pv 3) pa_nil)))))))))))), ?_⟩
  obtain ⟨Z, m, r, mu, zs, x, rfl, zl, ⟨p, v1, v2, v3, v4, o, rfl, hp, dv⟩, g, k⟩ := h
  have hs : Hs K ⟨H, [], Z⟩ Z H [.fa (TupF p [.int m, .int r, v1, v2, v3, v4, o]) tf_stay] [([v1, v2, v3, v4], [.tuple [], .tuple [], eMn mu, eDs zs])] :=
    ((Hs.start (fun _ z => by cases z) zl).fa (Φ := TupF p [.int m, .int r, v1, v2, v3, v4, o]) tf_stay hp).fact dv
  obtain ⟨_, _, e_, h2⟩ := hs.arg
  cases e_; clear hs; have hs := h2; clear h2
  obtain ⟨_, _, e_, h2⟩ := hs.arg
  cases e_; clear hs; have hs := h2; clear h2
  obtain ⟨_, _, e_, h2⟩ := hs.arg
  cases e_; clear hs; have hs := h2; clear h2
  obtain ⟨_, _, e_, h2⟩ := hs.arg
  cases e_; clear hs; have hs := h2.tl; clear h2
  obtain ⟨⟨m2, m8, r1, r16⟩, ⟨⟨z1, z24⟩, zn, znd⟩, ⟨mu1, mu8⟩, mg⟩ := id g
  have lm : (mu.map fun t => PyData.tuple (t.map eTh)).length = mu.length := List.length_map _
  have lz : (zs.map eDd).length = zs.length := List.length_map _
  tm_at "go"
  refine h_lcT [] (fun i acc => acc = []) hs (fun D acc Z' H' h => by tm_at "dt") rfl (fun D i d x acc Z' H' hd => by cases hd) (fun D1 acc Z1 H1 hr hacc hz1 hs1 => ?_)
  rw [hr] at hs1
  clear hs
  have hs1 := hs1.freeze .here
  tm_at "run"
  refine h_lcT (mu.map fun t => PyData.tuple (t.map eTh)) (fun i acc => acc = (mu.take i).map fun t => PyData.list (t.map eTh)) hs1 (fun D acc Z' H' h => by tm_at "dt") rfl (fun D i2 d x2 acc Z3 H9 hd2 hr hacc hz hs9 => ?_) (fun D2 acc Z2 H2 hr hacc hz2 hs2 => ?_)
  · obtain ⟨t, he, rfl⟩ := at_map hd2
    have hi2 : i2 < 100000 := by have := (List.getElem?_eq_some_iff.mp he).1; omega
    clear hs1
    tm_at "run"
    rename_i q Hq hsq
    have hsf := hsq.freeze .here
    refine lcE (d := .list (t.map eTh)) (hsf.wk (.keep (.keep .refl)) (Suf.cons (Suf.cons .refl))) (hz.trans (List.subset_cons_self _ _)) (by omega) (by omega) (by tm_at "dt") ?_
    show _ = _
    rw [_root_.Fr.take_more he, List.map_append, hr]
    rfl
  rw [lm, List.take_length] at hr
  rw [hr] at hs2
  clear hs1
  have hs2 := hs2.freeze .here
  tm_at "run"
  refine h_lcT (zs.map eDd) (fun i acc => acc = (zs.take i).map eDdL) hs2 (fun D acc Z' H' h => by tm_at "dt") rfl (fun D i2 d x2 acc Z3 H9 hd2 hr hacc hz hs9 => ?_) (fun D3 acc Z4 H3 hr hacc hz3 hs3 => ?_)
  · obtain ⟨t, he, rfl⟩ := at_map hd2
    have hi2 : i2 < 100000 := by have := (List.getElem?_eq_some_iff.mp he).1; omega
    clear hs2
    tm_at "run"
    rename_i q Hq hsq pt Hp hsp
    have hsf := hsp.freeze (.there .here)
    refine lcE (d := eDdL t) (hsf.wk (.cons (.keep (.keep .refl))) (Suf.cons (Suf.cons (Suf.cons .refl)))) (hz.trans (List.subset_cons_self _ _)) (by omega) (by omega) (by tm_at "dt") ?_
    show _ = _
    rw [_root_.Fr.take_more he, map_snoc, hr]
  rw [lz, List.take_length] at hr
  rw [hr] at hs3
  clear hs2
  have hs3 := hs3.freeze .here
  tm_at "run"
  refine h_lcT [] (fun i acc => acc = []) hs3 (fun D acc Z' H' h => by tm_at "dt") rfl (fun D i d x acc Z' H' hd => by cases hd) (fun D4 acc Z4 H4 hr hacc hz4 hs4 => ?_)
  rw [hr] at hs4
  clear hs3
  have hs4 := hs4.freeze .here
  tm_at "run"
  exact k_cb hs4.zl (show Dts K (D4 :: Z4) H4 [.ref D4, .ref D1, .ref D2, .ref D3] [.list [], .list [], eMnL mu, eDsL zs] from by tm_at "dts") g fun p2 H5 n2 k2 cb => k p2 H5 (hs4.free n2) (hs4.kp.trans k2) cb
theorem ok_l_real (T : Txt P w K mg CPlainBook CCodeBook CStock COddsError CBadShare CBadText CBadBook CBadMove CBadProgram CBadPlan CUnfit CTooLarge CBadEdit CCODE_FORMS CIDLE) : Fc P w K mg base CX0 8 "_law_real" ["stock"] (spLReal K CStock CCodeBook CPlainBook) := by
  refine fc_of T.d_l_real sc_l_real (fun vs H Q E h => by obtain ⟨Z, m, r, mu, zs, t, f, cs, v, rfl, zl, ⟨p, c, x, rfl, hp, hc, hx⟩, g, pre, gb, k⟩ := h; rfl) (fun _ _ _ _ _ _ us hl => match us, hl with | [_], _ => rfl) fun f cdv A outer s H vs Q E hr h => ⟨_, (pss_one (ps_ret (pe_nco (ok_Stock T) (passAll pass0) (hr.mono (by omega)) (pa_cons (pe_fc (ok_l_real_code T) pass0 (hr.mono (by omega)) (pa_cons (pe_ix (ixtK K) (pv 0) pe_int (fun _ _ => rfl)) pa_nil)) (pa_cons (pe_fc (ok_l_real_plain T) pass0 (hr.mono (by omega)) (pa_cons (pe_ix (ixtK K) (pv 0) pe_int (fun _ _ => rfl)) pa_nil)) pa_nil))))), ?_⟩
  obtain ⟨Z, m, r, mu, zs, t, f, cs, v, rfl, zl, ⟨p, c, x, rfl, hp, hc, hx⟩, g, pre, gb, k⟩ := h
  have hs : Hs K ⟨H, [], Z⟩ Z H [.fa (PlAt K x t f cs) pl_stay, .fa (CdAt K c m r mu zs) cd_stay, .fa (TupF p [c, x]) tf_stay] [] :=
    (((Hs.start (fun _ z => by cases z) zl).fa (Φ := TupF p [c, x]) tf_stay hp).fa cd_stay hc).fa pl_stay hx
  tm_at "go"
  refine ⟨Z, m, r, mu, zs, c, rfl, zl, hc, g, fun cp H1 n1 k1 cb => ?_⟩
  have hs1 := hs.same k1
  tm_at "run"
  refine ⟨Z, t, f, cs, x, rfl, hs1.zl, hs1.get .here, pre, gb, fun pp o H2 k2 n2 n3 pb => ?_⟩
  tm_at "run"
  exact k_sk fun p3 dx H3 n3 k3 e3 => k p3 H3 (hs1.free (k2.free n3)) (k1.trans (k2.trans k3)) ⟨dx, cp, pp, o, e3, (cb.kp0 k2).kp0 k3, pb.kp0 k3⟩


end



/-! my own steps: rows of tactics, tried from above -/

/-! steps over Hs -/












/-! names as lists of signs -/
def okN (l : List Nat) : Prop := (l.head?.any letC) = true ∧ l.all (fun c => letC c || digC c) = true
theorem isName_S {l : List Nat} (h : okN l) (hl : l.length ≤ 20) : isName (SX.S l) = true := by
  have h1 : 1 ≤ l.length := by
    cases l with
    | nil => exact absurd h.1 (by decide)
    | cons a b => simp
  unfold isName
  rw [SX.S_len, decide_eq_true h1, decide_eq_true hl]
  show (true && true && (SX.S l).cps.toList.head?.any letC && (SX.S l).cps.toList.all _) = true
  rw [show (SX.S l).cps.toList = l from by simp, h.1, h.2]
  rfl
theorem sg_at {i : Int} {c : Nat} (h0 : 0 ≤ i) (h1 : i < 36) (h : (Str.ofString "abcdefghijklmnopqrstuvwxyz0123456789").cps[i.toNat]? = some c) : (letC c || digC c) = true ∧ (i < 26 → letC c = true ∧ c = 97 + i.toNat) := by
  have e : (Str.ofString "abcdefghijklmnopqrstuvwxyz0123456789").cps.toList = ((List.range 26).map (97 + ·)) ++ ((List.range 10).map (48 + ·)) := by decide +kernel
  rw [← Array.getElem?_toList, e] at h
  have hi : i.toNat < 36 := by omega
  have all : ∀ k, k < 36 → ∀ c, (((List.range 26).map (97 + ·)) ++ ((List.range 10).map (48 + ·)))[k]? = some c → (letC c || digC c) = true ∧ (k < 26 → letC c = true ∧ c = 97 + k) := by decide +kernel
  obtain ⟨a, b⟩ := all i.toNat hi c h
  exact ⟨a, fun z => b (by omega)⟩
theorem sg_ix {i : Int} {c : Nat} (h0 : 0 ≤ i) (h1 : i < 36) (h : atI (Str.ofString "abcdefghijklmnopqrstuvwxyz0123456789").cps.toList i = some c) : (letC c || digC c) = true ∧ (i < 26 → letC c = true ∧ c = 97 + i.toNat) := by
  have lsg : (Str.ofString "abcdefghijklmnopqrstuvwxyz0123456789").cps.toList.length = 36 := by decide +kernel
  refine sg_at h0 h1 ?_
  unfold L2.atI L2.ixN at h
  rw [if_pos h0, lsg, if_pos (by omega)] at h
  rw [← Array.getElem?_toList]
  exact h
theorem okN.snoc {l : List Nat} {c : Nat} (h : okN l) (hc : (letC c || digC c) = true) : okN (l ++ [c]) := by
  refine ⟨?_, by rw [List.all_append, h.2]; simpa using hc⟩
  cases l with
  | nil => exact absurd h.1 (by decide)
  | cons a b => exact h.1
theorem okN.take {l : List Nat} (h : okN l) (n : Nat) (hn : 0 < n) : okN (l.take n) := by
  refine ⟨?_, ?_⟩
  · cases l with
    | nil => exact absurd h.1 (by decide)
    | cons a b =>
      cases n with
      | zero => omega
      | succ n => exact h.1
  · rw [List.all_eq_true]
    intro x hx
    exact List.all_eq_true.mp h.2 x (List.mem_of_mem_take hx)
theorem okN.ins {l : List Nat} (h : okN l) (n : Nat) {c : Nat} (hc : letC c = true) : okN (l.take n ++ [c] ++ l.drop n) := by
  refine ⟨?_, ?_⟩
  · cases n with
    | zero => simpa using hc
    | succ n =>
      cases l with
      | nil => exact absurd h.1 (by decide)
      | cons a b => exact h.1
  · rw [List.all_append, List.all_append]
    have h1 : (l.take n).all (fun c => letC c || digC c) = true := by
      rw [List.all_eq_true]
      intro x hx
      exact List.all_eq_true.mp h.2 x (List.mem_of_mem_take hx)
    have h2 : (l.drop n).all (fun c => letC c || digC c) = true := by
      rw [List.all_eq_true]
      intro x hx
      exact List.all_eq_true.mp h.2 x (List.mem_of_mem_drop hx)
    rw [h1, h2]
    simp [hc]
theorem ins_inj {l : List Nat} {n c d : Nat} (h : SX.S (l.take n ++ [c] ++ l.drop n) = SX.S (l.take n ++ [d] ++ l.drop n)) : c = d := by
  have h2 : l.take n ++ [c] ++ l.drop n = l.take n ++ [d] ++ l.drop n := by
    have := congrArg (fun z : Str => z.cps.toList) h
    simpa using this
  have h3 := List.append_cancel_right h2
  have h4 := List.append_cancel_left h3
  exact List.cons.inj h4 |>.1
abbrev S_l_names : List PyData → (List PyData → Prop) → Prop := fun ds φ => ds = [] ∧ (∀ (zs : List Str), (zs.length = 3 ∧ (∀ z ∈ zs, isName z = true ∧ z.length ≤ 19) ∧ zs.Nodup) → φ (zs.map PyData.str))
theorem sp_l_names {φ : List PyData → Prop}  (k_ : ∀ (zs : List Str), (zs.length = 3 ∧ (∀ z ∈ zs, isName z = true ∧ z.length ≤ 19) ∧ zs.Nodup) → φ (zs.map PyData.str)) : S_l_names [] φ := ⟨rfl, k_⟩
local macro_rules | `(tactic| tm_at "step") => `(tactic| first | (with_reducible refine sp_l_names ?_; intro zs_ hr_) | fail)

section
variable {P : Program} {w : World} {K : PySem.W.Frag} {mg : Str → Option Value} {base : Heap} {CPlainBook CCodeBook CStock COddsError CBadShare CBadText CBadBook CBadMove CBadProgram CBadPlan CUnfit CTooLarge CBadEdit CCODE_FORMS CIDLE : Addr}
theorem ok_l_names (T : Txt P w K mg CPlainBook CCodeBook CStock COddsError CBadShare CBadText CBadBook CBadMove CBadProgram CBadPlan CUnfit CTooLarge CBadEdit CCODE_FORMS CIDLE) : Fc P w K mg base CX0 2 "_law_names" ["pool"] (spWL K S_l_names) := by
  refine fc_of T.d_l_names sc_l_names (fun vs H Q E h => by obtain ⟨a, us, Z, ds, rfl, hp, na, zl, q, rfl, k⟩ := h; have := q.length; rw [List.length_cons, this]; rfl) (fun _ _ _ _ _ _ us hl => match us, hl with | [_], _ => rfl) fun f cdv A outer s H vs Q E hr h => ⟨_, (pss_cons (ps_set (i := 1) sc_l_names.nd rfl (Or.inr rfl) pe_str)
 (pss_cons (ps_set (i := 2) sc_l_names.nd rfl (Or.inl rfl) (pe_fc (ok_l_draw T) pass0 (hr.mono (by omega)) (pa_cons (pv 0) (pa_cons pe_int pa_nil))))
 (pss_cons (ps_if (pt_cmpR op_lt (pv 2) pe_int (nomark _))
 (pss_one (ps_ret (pe_lst (pa_cons pe_str (pa_cons pe_str (pa_cons pe_str pa_nil))))))
 pss_nil)
 (pss_cons (ps_set (i := 3) sc_l_names.nd rfl (Or.inr rfl) (pe_ix ix_str (pv 1) (pe_fc (ok_l_draw T) pass0 (hr.mono (by omega)) (pa_cons (pv 0) (pa_cons pe_int pa_nil))) (fun _ _ => rfl)))
 (pss_cons (ps_for PassesOwn.never rfl (pi_range1 (by rfl) T.n_range (pa_cons (pe_fc (ok_l_draw T) pass0 (hr.mono (by omega)) (pa_cons (pv 0) (pa_cons pe_int pa_nil))) pa_nil)) (pg_name (i := 4) sc_l_names.nd rfl (Or.inl rfl))
 (pss_one (ps_set (i := 3) sc_l_names.nd rfl (Or.inr rfl) (pe_op o_addS (pv 3) (pe_ix ix_str (pv 1) (pe_fc (ok_l_draw T) pass0 (hr.mono (by omega)) (pa_cons (pv 0) (pa_cons pe_int pa_nil))) (fun _ _ => rfl))))))
 (pss_cons (ps_if (pt_cmpR op_eq (pv 2) pe_int (nomark _))
 (pss_cons (ps_set (i := 3) sc_l_names.nd rfl (Or.inr rfl) (pe_slice C8.sl_txt (pv 3) po_none (po_some pe_int)))
 (pss_one (ps_ret (pe_lst (pa_cons (pe_op o_addS (pv 3) pe_str) (pa_cons (pv 3) (pa_cons (pe_op o_addS (pv 3) pe_str) pa_nil)))))))
 pss_nil)
 (pss_cons (ps_set (i := 5) sc_l_names.nd rfl (Or.inr rfl) (pe_fc (ok_l_draw T) pass0 (hr.mono (by omega)) (pa_cons (pv 0) (pa_cons (pe_op op_add (pe_callB c_lenS (by rfl) T.n_len b_len (pa_cons (pv 3) pa_nil)) pe_int) pa_nil))))
 (pss_cons (ps_set (i := 6) sc_l_names.nd rfl (Or.inr rfl) (pe_fc (ok_l_draw T) pass0 (hr.mono (by omega)) (pa_cons (pv 0) (pa_cons pe_int pa_nil))))
 (pss_one (ps_ret (pe_lc (own := [("k", 4)]) (g := (gName 4)) (tt := tYes) rfl sc_l_names.nd (piLK K (pe_lst (pa_cons pe_int (pa_cons pe_int (pa_cons pe_int pa_nil))))) (blkOk_by (own := [("k", 4)]) (N := ["pool", "signs", "way", "base", "k", "at", "j"]) (sc := defScope s_l_names) (by decide +kernel)) (fun _ _ _ _ _ => (pg_name (i := 4) sc_l_names.nd rfl (Or.inl rfl))) (fun _ _ _ _ _ => pts_nil) (fun _ _ _ _ _ => (pe_op o_addS (pe_op o_addS (pe_slice C8.sl_txt (pv 3) po_none (po_some (pv 5))) (pe_ix ix_str (pv 1) (pe_op op_add (pv 6) (pv 4)) (fun _ _ => rfl))) (pe_slice C8.sl_txt (pv 3) (po_some (pv 5)) po_none)))))))))))))), ?_⟩
  obtain ⟨a, us, Z, ds, rfl, hp, na, zl, q, rfl, k⟩ := h
  have hs := in_w hp na zl q
  obtain ⟨e_, h2⟩ := hs.argN; clear hs; subst e_; have hs := h2; clear h2
  have lsg : (Str.ofString "abcdefghijklmnopqrstuvwxyz0123456789").length = 36 := by decide +kernel
  have la : Str.ofString "a" = SX.S [97] := by decide +kernel
  have laa : Str.ofString "aa" = SX.S [97, 97] := by decide +kernel
  tm_at "go"
  · rename_i p H2 hs2
    refine fin_wl (ds := [Str.ofString "a", Str.ofString "b", Str.ofString "c"].map PyData.str) hs2 .here (.there .here) (k [Str.ofString "a", Str.ofString "b", Str.ofString "c"] ⟨rfl, ?_, by decide +kernel⟩)
    decide +kernel
  rename_i way H1 w0 w1 hs1 hc r H2 r0 r1 hs2
  refine u_ixS (by omega) (by omega) (by omega) fun c hc1 => ?_
  obtain ⟨_, hc2⟩ := sg_ix r0 (by omega) hc1
  obtain ⟨hc3, _⟩ := hc2 (by omega)
  clear hs1
  tm_at "run"
  rename_i n H3 n0 n1 hs3
  refine l_range (fun i σ H' => ∃ (l : List Nat) (u4 : Option V), σ = [some (.ref a), some (.str (Str.ofString "abcdefghijklmnopqrstuvwxyz0123456789")), some (.int way), some (.str (SX.S l)), u4, none, none] ∧ okN l ∧ l.length = i + 1 ∧ Hs K ⟨H, [a], Z⟩ Z H' [.pool a] []) ?_ ?_ ?_
  · exact ⟨[c], none, rfl, ⟨by simpa using hc3, by simp [hc3]⟩, rfl, by tm_at "wk"⟩
  · rintro i σ H' hi ⟨l, u4, rfl, ok, ln, hs4⟩
    clear hs3 hs2
    tm_at "run"
    rename_i r2 H5 r20 r21 hs5
    refine u_ixS (by omega) (by omega) (by omega) fun c2 hc4 => ?_
    obtain ⟨hc5, _⟩ := sg_ix r20 (by omega) hc4
    refine h_addS (b := [c2]) (by simp; omega) ?_
    tm_at "run"
    exact ⟨_, _, rfl, ok.snoc hc5, by simp; omega, by tm_at "wk"⟩
  · rintro σ H' ⟨l, u4, rfl, ok, ln, hs4⟩
    clear hs3 hs2
    have lS : (SX.S l).length = l.length := SX.S_len l
    have l19 : l.length ≤ 18 := by omega
    have e17 : Txt.slice (SX.S l) none (some 17) = SX.S (l.take 17) := SX.slice_to (by decide)
    have l17 : (l.take 17).length ≤ 17 := by rw [List.length_take]; omega
    have ok17 := ok.take 17 (by omega)
    have ok17a := ok17.snoc (c := 97) (by decide)
    have ok17b := ok17a.snoc (c := 97) (by decide)
    tm_at "run"
    · rw [e17, la, laa]
      generalize l.take 17 = m at l17 ok17 ok17a ok17b
      refine h_addS (by simp; omega) ?_
      tm_at "run"
      refine h_addS (by simp; omega) ?_
      tm_at "run"
      rename_i p H5 hs5
      refine fin_wl (ds := [SX.S (m ++ [97]), SX.S m, SX.S (m ++ [97, 97])].map PyData.str) hs5 .here (.there .here) (k [SX.S (m ++ [97]), SX.S m, SX.S (m ++ [97, 97])] ⟨rfl, fun z hz => ?_, ?_⟩)
      · have e2 : m ++ [97, 97] = m ++ [97] ++ [97] := by simp
        simp only [List.mem_cons, List.not_mem_nil, or_false] at hz
        rcases hz with rfl | rfl | rfl
        · exact ⟨isName_S ok17a (by simp; omega), by rw [SX.S_len]; simp; omega⟩
        · exact ⟨isName_S ok17 (by omega), by rw [SX.S_len]; omega⟩
        · rw [e2]
          exact ⟨isName_S ok17b (by simp; omega), by rw [SX.S_len]; simp; omega⟩
      · have ne : ∀ x y : List Nat, x.length ≠ y.length → SX.S x ≠ SX.S y := fun x y h z => h (by have := congrArg Str.length z; rwa [SX.S_len, SX.S_len] at this)
        have n1 := ne (m ++ [97]) m (by simp)
        have n2 := ne (m ++ [97]) (m ++ [97, 97]) (by simp)
        have n3 := ne m (m ++ [97, 97]) (by simp)
        simp [n1, n2, n3]
    rename_i at_ H5 t0 t1 hs5 j H6 j0 j1 hs6 q H7 hs7
    have l0 : 0 < l.length := by omega
    refine h_lcL [.int 1, .int 0, .int 2] (fun i acc => acc = (([1, 0, 2] : List Int).take i).map fun x => PyData.str (SX.S (l.take at_.toNat ++ [97 + (j + x).toNat] ++ l.drop at_.toNat))) hs7 (fun D acc Z' H' h => h.dlv (.there .here)) rfl (fun D i2 d x2 acc Z3 H9 hd2 hr hacc hz hs9 => ?_) (fun D acc Z3 H9 hr hacc hz hs9 => ?_)
    · have ex : ∃ x : Int, ([1, 0, 2] : List Int)[i2]? = some x ∧ d = .int x ∧ 0 ≤ x ∧ x ≤ 2 := by
        rcases i2 with _ | _ | _ | i2
        · cases hd2; exact ⟨1, rfl, rfl, by decide, by decide⟩
        · cases hd2; exact ⟨0, rfl, rfl, by decide, by decide⟩
        · cases hd2; exact ⟨2, rfl, rfl, by decide, by decide⟩
        · cases hd2
      obtain ⟨x, he, rfl, x0, x2'⟩ := ex
      obtain rfl := (hs9.dt List.mem_cons_self).int_inv
      have hi2 : i2 < 100000 := by have := (List.getElem?_eq_some_iff.mp he).1; simp at this; omega
      have ea : Txt.slice (SX.S l) none (some at_) = SX.S (l.take at_.toNat) := SX.slice_to (by omega)
      have eb : Txt.slice (SX.S l) (some at_) none = SX.S (l.drop at_.toNat) := SX.slice_from (by omega)
      clear hs7 hs6 hs5
      tm_at "run"
      refine u_ixS (by omega) (by omega) (by omega) fun c2 hc4 => ?_
      obtain ⟨_, hc5⟩ := sg_ix (by omega) (by omega) hc4
      obtain ⟨_, rfl⟩ := hc5 (by omega)
      rw [ea]
      have lt1 : (l.take at_.toNat).length ≤ 18 := by rw [List.length_take]; omega
      have lt2 : (l.drop at_.toNat).length ≤ 18 := by rw [List.length_drop]; omega
      refine h_addS (b := [97 + (j + x).toNat]) (by simp; omega) ?_
      tm_at "run"
      rw [eb]
      refine h_addS (by simp; omega) ?_
      tm_at "run"
      show _ = _
      rw [_root_.Fr.take_more he, List.map_append, hr]
      rfl
    · rw [hr] at hs9
      have i0 : (97 + (j + 0).toNat) ≠ 97 + (j + 1).toNat := by omega
      have i1 : (97 + (j + 0).toNat) ≠ 97 + (j + 2).toNat := by omega
      have i2 : (97 + (j + 1).toNat) ≠ 97 + (j + 2).toNat := by omega
      have lc : ∀ x : Int, 0 ≤ x → x ≤ 2 → letC (97 + (j + x).toNat) = true := fun x h0 h2 => by unfold letC; rw [decide_eq_true_eq]; omega
      have gn : ∀ x : Int, 0 ≤ x → x ≤ 2 → isName (SX.S (l.take at_.toNat ++ [97 + (j + x).toNat] ++ l.drop at_.toNat)) = true ∧ (SX.S (l.take at_.toNat ++ [97 + (j + x).toNat] ++ l.drop at_.toNat)).length ≤ 19 := fun x h0 h2 => by
        have ll : (l.take at_.toNat ++ [97 + (j + x).toNat] ++ l.drop at_.toNat).length = l.length + 1 := by
          rw [List.length_append, List.length_append, List.length_take, List.length_drop, List.length_singleton]; omega
        exact ⟨isName_S (ok.ins _ (lc x h0 h2)) (by omega), by rw [SX.S_len]; omega⟩
      refine fin_wl (ds := [SX.S (l.take at_.toNat ++ [97 + (j + 1).toNat] ++ l.drop at_.toNat), SX.S (l.take at_.toNat ++ [97 + (j + 0).toNat] ++ l.drop at_.toNat), SX.S (l.take at_.toNat ++ [97 + (j + 2).toNat] ++ l.drop at_.toNat)].map PyData.str) hs9 .here (.there (.there .here)) (k [SX.S (l.take at_.toNat ++ [97 + (j + 1).toNat] ++ l.drop at_.toNat), SX.S (l.take at_.toNat ++ [97 + (j + 0).toNat] ++ l.drop at_.toNat), SX.S (l.take at_.toNat ++ [97 + (j + 2).toNat] ++ l.drop at_.toNat)] ⟨rfl, fun z hz => ?_, ?_⟩)
      · simp only [List.mem_cons, List.not_mem_nil, or_false] at hz
        rcases hz with rfl | rfl | rfl
        · exact gn 1 (by decide) (by decide)
        · exact gn 0 (by decide) (by decide)
        · exact gn 2 (by decide) (by decide)
      · have n1 : SX.S (l.take at_.toNat ++ [97 + (j + 1).toNat] ++ l.drop at_.toNat) ≠ SX.S (l.take at_.toNat ++ [97 + (j + 0).toNat] ++ l.drop at_.toNat) := fun z => i0 (ins_inj z).symm
        have n2 : SX.S (l.take at_.toNat ++ [97 + (j + 1).toNat] ++ l.drop at_.toNat) ≠ SX.S (l.take at_.toNat ++ [97 + (j + 2).toNat] ++ l.drop at_.toNat) := fun z => i2 (ins_inj z)
        have n3 : SX.S (l.take at_.toNat ++ [97 + (j + 0).toNat] ++ l.drop at_.toNat) ≠ SX.S (l.take at_.toNat ++ [97 + (j + 2).toNat] ++ l.drop at_.toNat) := fun z => i1 (ins_inj z)
        rw [List.nodup_cons, List.nodup_cons]
        refine ⟨fun z => ?_, fun z => ?_, by simp⟩
        · simp only [List.mem_cons, List.not_mem_nil, or_false] at z
          rcases z with z | z
          · exact n1 z
          · exact n2 z
        · rw [List.mem_singleton] at z
          exact n3 z


end



/-! my own steps: rows of tactics, tried from above -/

/-! steps over Hs -/












/-! drawn choices -/
def cnt (cs : List Ch) (h : Int) (x : Str × Int) : Nat := (cs.filter fun c => decide (c.h = h ∧ (c.nm, c.a) = x)).length
structure Cho (ts : List (Str × Int)) (homes : List Int) (D : Int → Str × Int → Prop) (cs : List Ch) : Prop where
  nd : cs.Nodup
  src : ∀ c ∈ cs, c.h ∈ homes ∧ c.t ∈ homes ∧ (c.nm, c.a) ∈ ts ∧ 0 ≤ c.r ∧ c.r ≤ 7
  four : ∀ h x, cnt cs h x ≤ 4
  free : ∀ h x, ¬ D h x → cnt cs h x = 0
theorem cnt_perm {cs ds : List Ch} (p : cs.Perm ds) (h : Int) (x : Str × Int) : cnt cs h x = cnt ds h x := (p.filter _).length_eq
theorem cnt_cons (c : Ch) (cs : List Ch) (h : Int) (x : Str × Int) : cnt (c :: cs) h x = cnt cs h x + if c.h = h ∧ (c.nm, c.a) = x then 1 else 0 := by
  unfold cnt
  by_cases e : c.h = h ∧ (c.nm, c.a) = x
  · rw [List.filter_cons_of_pos (by simpa using e), if_pos e]; rfl
  · rw [List.filter_cons_of_neg (by simpa using e), if_neg e]; rfl
section
variable {ts : List (Str × Int)} {homes : List Int} {D D' : Int → Str × Int → Prop} {cs cs' : List Ch} {c : Ch}
theorem Cho.nil : Cho ts homes D [] := ⟨List.nodup_nil, (fun _ z => by cases z), fun _ _ => Nat.zero_le _, fun _ _ _ => rfl⟩
theorem Cho.more (C : Cho ts homes D cs) (s : ∀ h x, D h x → D' h x) : Cho ts homes D' cs := ⟨C.nd, C.src, C.four, fun h x n => C.free h x fun z => n (s h x z)⟩
theorem Cho.ins (C : Cho ts homes D cs) (d : D c.h (c.nm, c.a)) (few : cnt cs c.h (c.nm, c.a) < 4) (new : c ∉ cs) (s : c.h ∈ homes ∧ c.t ∈ homes ∧ (c.nm, c.a) ∈ ts ∧ 0 ≤ c.r ∧ c.r ≤ 7) (p : cs'.Perm (c :: cs)) :
    Cho ts homes D cs' ∧ cnt cs' c.h (c.nm, c.a) = cnt cs c.h (c.nm, c.a) + 1 := by
  refine ⟨⟨p.nodup_iff.mpr (List.nodup_cons.mpr ⟨new, C.nd⟩), fun e he => ?_, fun h x => ?_, fun h x n => ?_⟩, ?_⟩
  · rcases List.mem_cons.mp (p.mem_iff.mp he) with rfl | he
    · exact s
    · exact C.src e he
  · rw [cnt_perm p, cnt_cons]
    by_cases e : c.h = h ∧ (c.nm, c.a) = x
    · rw [if_pos e]
      obtain ⟨rfl, rfl⟩ := e
      omega
    · rw [if_neg e]; exact C.four h x
  · rw [cnt_perm p, cnt_cons, C.free h x n, if_neg]
    rintro ⟨rfl, rfl⟩
    exact n d
  · rw [cnt_perm p, cnt_cons, if_pos ⟨rfl, rfl⟩]
theorem Cho.good (C : Cho ts homes D cs) : goodG cs = true := by
  rw [goodG_iff]
  intro c hc
  refine ⟨?_, ?_⟩
  · have nd := C.nd
    have h := List.nodup_iff_count.mp nd c
    rw [List.count_eq_length_filter] at h
    have e : (cs.filter fun d => decide (d = c)) = cs.filter (fun d => d == c) := List.filter_congr fun x _ => by rw [Bool.eq_iff_iff]; simp
    rw [e]
    exact h
  · have h := C.four c.h (c.nm, c.a)
    unfold cnt at h
    have e : (cs.filter fun d => sameK d c) = cs.filter fun d => decide (d.h = c.h ∧ (d.nm, d.a) = (c.nm, c.a)) := List.filter_congr fun d _ => by
      rw [Bool.eq_iff_iff, sameK_iff, decide_eq_true_eq, Prod.mk.injEq]
      constructor
      · rintro ⟨a, b, c⟩; exact ⟨b, a, c⟩
      · rintro ⟨a, b, c⟩; exact ⟨b, a, c⟩
    rw [e]
    exact h
end
theorem nd_take {α : Type} {l : List α} {i : Nat} {x : α} (nd : l.Nodup) (h : l[i]? = some x) : x ∉ l.take i := fun z => by
  rw [← List.take_append_drop i l, List.nodup_append] at nd
  have e : (l.drop i)[0]? = some x := by rw [List.getElem?_drop]; exact h
  exact nd.2.2 x z x (List.mem_of_getElem? e) rfl
theorem ins_mid {α : Type} (L : List α) (i : Nat) (x : α) : (L.take i ++ [x] ++ L.drop i).Perm (x :: L) := by
  have z : (L.take i ++ x :: L.drop i).Perm (x :: (L.take i ++ L.drop i)) := List.perm_middle
  rw [List.take_append_drop] at z
  simpa using z
abbrev S_l_choices : List PyData → (List PyData → Prop) → Prop := fun ds φ => ∃ (ts : List (Str × Int)), ∃ (homes : List Int), ∃ (most : Int), ds = [.list (ts.map eTh), .list (homes.map PyData.int), .int most] ∧ ((1 ≤ ts.length ∧ ts.length ≤ 7 ∧ ts.Nodup ∧ ∀ x ∈ ts, x.1.length ≤ 20) ∧ (1 ≤ homes.length ∧ homes.length ≤ 4 ∧ homes.Nodup) ∧ (0 ≤ most ∧ most ≤ 4)) ∧ (∀ (cs : List Ch), (goodG cs = true ∧ cs.length ≤ 112 ∧ ∀ c ∈ cs, c.h ∈ homes ∧ c.t ∈ homes ∧ (c.nm, c.a) ∈ ts ∧ 0 ≤ c.r ∧ c.r ≤ 7) → φ (cs.map eCh))
theorem sp_l_choices {φ : List PyData → Prop} {ts : List (Str × Int)} {homes : List Int} {most : Int} (p_ : (1 ≤ ts.length ∧ ts.length ≤ 7 ∧ ts.Nodup ∧ ∀ x ∈ ts, x.1.length ≤ 20) ∧ (1 ≤ homes.length ∧ homes.length ≤ 4 ∧ homes.Nodup) ∧ (0 ≤ most ∧ most ≤ 4)) (k_ : ∀ (cs : List Ch), (goodG cs = true ∧ cs.length ≤ 112 ∧ ∀ c ∈ cs, c.h ∈ homes ∧ c.t ∈ homes ∧ (c.nm, c.a) ∈ ts ∧ 0 ≤ c.r ∧ c.r ≤ 7) → φ (cs.map eCh)) : S_l_choices [.list (ts.map eTh), .list (homes.map PyData.int), .int most] φ := ⟨ts, homes, most, rfl, p_, k_⟩
local macro_rules | `(tactic| tm_at "step") => `(tactic| first | (with_reducible refine' sp_l_choices ?k1 ?_; (case k1 => tm_at "pre"); intro cs_ hr_) | fail)

section
variable {P : Program} {w : World} {K : PySem.W.Frag} {mg : Str → Option Value} {base : Heap} {CPlainBook CCodeBook CStock COddsError CBadShare CBadText CBadBook CBadMove CBadProgram CBadPlan CUnfit CTooLarge CBadEdit CCODE_FORMS CIDLE : Addr}
theorem ok_l_choices (T : Txt P w K mg CPlainBook CCodeBook CStock COddsError CBadShare CBadText CBadBook CBadMove CBadProgram CBadPlan CUnfit CTooLarge CBadEdit CCODE_FORMS CIDLE) : Fc P w K mg base CX0 2 "_law_choices" ["pool", "things", "homes", "most"] (spWL K S_l_choices) := by
  refine fc_of T.d_l_choices sc_l_choices (fun vs H Q E h => by obtain ⟨a, us, Z, ds, rfl, hp, na, zl, q, ts, homes, most, rfl, pre, k⟩ := h; have := q.length; rw [List.length_cons, this]; rfl) (fun _ _ _ _ _ _ us hl => match us, hl with | [_, _, _, _], _ => rfl) fun f cdv A outer s H vs Q E hr h => ⟨_, (pss_cons (ps_set (i := 4) sc_l_choices.nd rfl (Or.inl rfl) (pe_ix (ixlK K) (pe_lst (pa_cons pe_int (pa_cons pe_int pa_nil))) (pe_callTy c_int1 (by rfl) T.n_int b_int (pa_cons (pe_cmpR op_eq (pe_fc (ok_l_draw T) pass0 (hr.mono (by omega)) (pa_cons (pv 0) (pa_cons pe_int pa_nil))) pe_int (nomark _)) pa_nil)) (fun _ _ => rfl)))
 (pss_cons (ps_set (i := 5) sc_l_choices.nd rfl (Or.inl rfl) (pe_lst pa_nil))
 (pss_cons (ps_for PassesOwn.never rfl (piLK K (pv 2)) (pg_name (i := 6) sc_l_choices.nd rfl (Or.inl rfl))
 (pss_one (ps_for PassesOwn.never rfl (piLK K (pv 1)) (pg_name (i := 7) sc_l_choices.nd rfl (Or.inl rfl))
 (pss_one (ps_for PassesOwn.never rfl (pi_range1 (by rfl) T.n_range (pa_cons (pe_ix (ixlK K) (pe_lst (pa_cons pe_int (pa_cons pe_int (pa_cons pe_int (pa_cons pe_int (pa_cons (pv 3) pa_nil)))))) (pe_fc (ok_l_draw T) pass0 (hr.mono (by omega)) (pa_cons (pv 0) (pa_cons pe_int pa_nil))) (fun _ _ => rfl)) pa_nil)) (pg_name (i := 8) sc_l_choices.nd rfl (Or.inl rfl))
 (pss_cons (ps_set (i := 9) sc_l_choices.nd rfl (Or.inl rfl) (pe_ix (ixlK K) (pv 2) (pe_fc (ok_l_draw T) pass0 (hr.mono (by omega)) (pa_cons (pv 0) (pa_cons (pe_callB (lenK K) (by rfl) T.n_len b_len (pa_cons (pv 2) pa_nil)) pa_nil))) (fun _ _ => rfl)))
 (pss_cons (ps_set (i := 10) sc_l_choices.nd rfl (Or.inl rfl) (pe_tup (pa_cons (pe_ix (ixtK K) (pv 7) pe_int (fun _ _ => rfl)) (pa_cons (pv 6) (pa_cons (pe_ix (ixtK K) (pv 7) pe_int (fun _ _ => rfl)) (pa_cons (pv 9) (pa_cons (pe_fc (ok_l_draw T) pass0 (hr.mono (by omega)) (pa_cons (pv 0) (pa_cons (pv 4) pa_nil))) pa_nil)))))))
 (pss_one (ps_if (pt_cmpR (niAK K hr.units) (pv 10) (pv 5) rfl)
 (pss_one (ps_expr (pe_bm PySem.F.plainAttrs_list PySem.F.slot_list_insert PySem.F.type_list_insert m_ins (pv 5) (pa_cons (pe_fc (ok_l_draw T) pass0 (hr.mono (by omega)) (pa_cons (pv 0) (pa_cons (pe_op op_add (pe_callB (lenK K) (by rfl) T.n_len b_len (pa_cons (pv 5) pa_nil)) pe_int) pa_nil))) (pa_cons (pv 10) pa_nil)))))
 pss_nil)))))))))
 (pss_one (ps_ret (pv 5)))))), ?_⟩
  obtain ⟨a, us, Z, ds, rfl, hp, na, zl, q, ts, homes, most, rfl, pre, k⟩ := h
  have hs := in_w hp na zl q
  obtain ⟨v0, _, e_, h2⟩ := hs.arg; clear hs; subst e_; have hs := h2; clear h2
  obtain ⟨v1, _, e_, h2⟩ := hs.arg; clear hs; subst e_; have hs := h2; clear h2
  obtain ⟨_, e_, h2⟩ := hs.argI; clear hs; subst e_; have hs := h2; clear h2
  obtain ⟨e_, h2⟩ := hs.argN; clear hs; subst e_; have hs := h2; clear h2
  obtain ⟨⟨t1, t7, tnd, tn⟩, ⟨h1, h4, hnd⟩, m0, m4⟩ := pre
  have lt : (ts.map eTh).length = ts.length := List.length_map _
  have lh : (homes.map PyData.int).length = homes.length := List.length_map _
  have in28 : ∀ d ∈ [PyData.int 2, PyData.int 8], ∃ z : Int, d = .int z ∧ 2 ≤ z ∧ z ≤ 8 := fun d hd => by
    simp only [List.mem_cons, List.not_mem_nil, or_false] at hd
    rcases hd with rfl | rfl <;> exact ⟨_, rfl, by decide, by decide⟩
  have inm : ∀ d ∈ [PyData.int 1, PyData.int 0, PyData.int 1, PyData.int 2, PyData.int most], ∃ z : Int, d = .int z ∧ 0 ≤ z ∧ z ≤ 4 := fun d hd => by
    simp only [List.mem_cons, List.not_mem_nil, or_false] at hd
    rcases hd with rfl | rfl | rfl | rfl | rfl <;> exact ⟨_, rfl, by omega, by omega⟩
  tm_at "go"
  rename_i p0 H1 _ r H2 r0 r1 hs2
  refine h_ixLn (lo := 2) (hi := 8) hs2 (by tm_at "lr") (by split <;> omega) (by show _ < (2 : Int); split <;> omega) in28 fun ans a2 a8 => ?_
  clear hs
  tm_at "run"
  rename_i q H3 hs3
  have hs3 : Hs K ⟨H, [a], Z⟩ Z H3 [.dl K q [] true, .pool a] [([v1], [.list (homes.map PyData.int)]), ([v0], [.list (ts.map eTh)])] := by tm_at "wk"
  clear hs2
  refine l_dl (homes.map PyData.int) (fun i σ H' => ∃ (Z1 : List Addr) (cs : List Ch) (u6 u7 u8 u9 u10 : Option V), σ = [some (.ref a), some v0, some v1, some (.int most), some (.int ans), some (.ref q), u6, u7, u8, u9, u10] ∧ Cho ts homes (fun h _ => h ∈ homes.take i) cs ∧ cs.length ≤ i * 28 ∧
    Hs K ⟨H, [a], Z⟩ Z1 H' [.dl K q (cs.map eCh) true, .pool a] [([v1], [.list (homes.map PyData.int)]), ([v0], [.list (ts.map eTh)])]) ?_ ?_ ?_ ?_
  · exact ⟨Z, [], none, none, none, none, none, rfl, Cho.nil, Nat.zero_le _, hs3⟩
  · rintro i σ H' hi ⟨Z1, cs, u6, u7, u8, u9, u10, rfl, C, lc, hs4⟩
    exact ⟨Z1, by tm_at "lr"⟩
  · rintro i d x σ H5 hd hx ⟨Z1, cs, u6, u7, u8, u9, u10, rfl, C, lc, hs4⟩
    obtain ⟨h, hh, rfl⟩ := at_map hd
    obtain rfl := (hx Z1 (by tm_at "lr")).int_inv
    have hi : i < homes.length := (List.getElem?_eq_some_iff.mp hh).1
    have hm : h ∈ homes := List.mem_of_getElem? hh
    have hn : h ∉ homes.take i := nd_take hnd hh
    have ht : homes.take (i + 1) = homes.take i ++ [h] := _root_.Fr.take_more hh
    clear hs3
    tm_at "run"
    refine l_dl (ts.map eTh) (fun j σ H' => ∃ (Z2 : List Addr) (cs : List Ch) (u7 u8 u9 u10 : Option V), σ = [some (.ref a), some v0, some v1, some (.int most), some (.int ans), some (.ref q), some (.int h), u7, u8, u9, u10] ∧ Cho ts homes (fun h2 x => h2 ∈ homes.take i ∨ (h2 = h ∧ x ∈ ts.take j)) cs ∧ cs.length ≤ i * 28 + j * 4 ∧
      Hs K ⟨H, [a], Z⟩ Z2 H' [.dl K q (cs.map eCh) true, .pool a] [([v1], [.list (homes.map PyData.int)]), ([v0], [.list (ts.map eTh)])]) ?_ ?_ ?_ ?_
    · exact ⟨Z1, cs, _, _, _, _, rfl, C.more fun _ _ z => .inl z, by omega, by tm_at "wk"⟩
    · rintro j σ H' hj ⟨Z2, cs, u7, u8, u9, u10, rfl, C, lc, hs5⟩
      exact ⟨Z2, by tm_at "lr"⟩
    · rintro j d x σ H6 hd hx ⟨Z2, cs, u7, u8, u9, u10, rfl, C, lc, hs5⟩
      obtain ⟨t, htt, rfl⟩ := at_map hd
      have hs6 := hs5.fact1 (hx Z2 (by tm_at "lr"))
      have hj : j < ts.length := (List.getElem?_eq_some_iff.mp htt).1
      have tm : t ∈ ts := List.mem_of_getElem? htt
      have tt : t ∉ ts.take j := nd_take tnd htt
      have htk : ts.take (j + 1) = ts.take j ++ [t] := _root_.Fr.take_more htt
      have c0 : cnt cs h t = 0 := C.free h t (by
        rintro (z | ⟨_, z⟩)
        · exact hn z
        · exact tt z)
      clear hs4 hs5 hx
      tm_at "run"
      rename_i p1 H7 _ r H8 r0 r1 hs8
      refine h_ixLn (lo := 0) (hi := 4) hs8 (by tm_at "lr") (by omega) (by show _ < (5 : Int); omega) inm fun n n0 n4 => ?_
      have hs9 : Hs K ⟨H, [a], Z⟩ Z2 H8 [.dl K q (cs.map eCh) true, .pool a] [([x], [eTh t]), ([v1], [.list (homes.map PyData.int)]), ([v0], [.list (ts.map eTh)])] := by tm_at "wk"
      clear hs6 hs8
      tm_at "run"
      refine l_range (fun m σ H' => ∃ (Z3 : List Addr) (ds : List Ch) (u8 u9 u10 : Option V), σ = [some (.ref a), some v0, some v1, some (.int most), some (.int ans), some (.ref q), some (.int h), some x, u8, u9, u10] ∧ Cho ts homes (fun h2 x => h2 ∈ homes.take i ∨ (h2 = h ∧ x ∈ ts.take (j + 1))) ds ∧ cnt ds h t ≤ m ∧ ds.length ≤ cs.length + m ∧
        Hs K ⟨H, [a], Z⟩ Z3 H' [.dl K q (ds.map eCh) true, .pool a] [([x], [eTh t]), ([v1], [.list (homes.map PyData.int)]), ([v0], [.list (ts.map eTh)])]) ?_ ?_ ?_
      · refine ⟨Z2, cs, _, _, _, rfl, C.more fun h2 x z => ?_, by omega, Nat.le_refl _, by tm_at "wk"⟩
        rw [htk]
        rcases z with z | ⟨z1, z2⟩
        · exact .inl z
        · exact .inr ⟨z1, List.mem_append_left _ z2⟩
      · rintro m σ H' hm2 ⟨Z3, ds, u8, u9, u10, rfl, C3, cm, lm, hs10⟩
        clear hs9
        have lds : (ds.map eCh).length = ds.length := List.length_map _
        tm_at "run"
        rename_i r H9 r0 r1 hs11
        refine h_ixLf hs11 (l := homes) (by tm_at "lr") (by omega) (by omega) fun to hto xt dt _ => ?_
        obtain rfl := dt.int_inv
        clear hs10 dt
        tm_at "run"
        · exact ⟨Z3, ds, _, _, _, rfl, C3, by omega, by omega, by tm_at "wk"⟩
        rename_i an _ a0 a1 _ pc _ _ hb pos H12 p0 p1 hs12
        have ea : ((ds.map eCh).any fun y => PyData.eqv y (eCh ⟨t.1, h, t.2, to, an⟩)) = true ↔ (⟨t.1, h, t.2, to, an⟩ : Ch) ∈ ds := (any_iff (noBs_map eCh (fun _ => rfl) ds) rfl).trans ⟨fun z => by
          obtain ⟨c, hc, e⟩ := List.mem_map.mp z
          rw [← eCh_inj e]; exact hc, fun z => List.mem_map.mpr ⟨_, z, rfl⟩⟩
        have new : (⟨t.1, h, t.2, to, an⟩ : Ch) ∉ ds := fun z => by rw [ea.mpr z] at hb; cases hb
        refine h_ins hs12 .here (show Dt K Z3 H12 (.ref pc) (eCh ⟨t.1, h, t.2, to, an⟩) from by tm_at "dt") (by omega) (by omega) (by omega) fun H13 hs13 => ?_
        rw [ins_map] at hs13
        have pm := ins_mid ds pos.toNat (⟨t.1, h, t.2, to, an⟩ : Ch)
        obtain ⟨C4, c4⟩ := C3.ins (c := ⟨t.1, h, t.2, to, an⟩) (.inr ⟨rfl, by rw [htk]; exact List.mem_append_right _ (List.mem_singleton.mpr rfl)⟩) (by show cnt ds h t < 4; omega) new ⟨hm, hto, tm, by show 0 ≤ an; omega, by show an ≤ 7; omega⟩ pm
        have l4 := pm.length_eq
        have c4 : cnt (ds.take pos.toNat ++ [⟨t.1, h, t.2, to, an⟩] ++ ds.drop pos.toNat) h t = cnt ds h t + 1 := c4
        refine ⟨Z3, _, _, _, _, rfl, C4, by omega, by rw [l4]; simp; omega, by tm_at "wk"⟩
      · rintro σ H' ⟨Z3, ds, u8, u9, u10, rfl, C3, cm, lm, hs10⟩
        tm_at "run"
        exact ⟨Z3, ds, _, _, _, _, rfl, C3, by omega, by tm_at "wk"⟩
    · rintro σ H' ⟨Z2, cs, u7, u8, u9, u10, rfl, C, lc, hs5⟩
      rw [lt] at C lc
      tm_at "run"
      refine ⟨Z2, cs, _, _, _, _, _, rfl, C.more fun h2 x z => ?_, by omega, by tm_at "wk"⟩
      rw [ht]
      rcases z with z | ⟨rfl, z⟩
      · exact List.mem_append_left _ z
      · exact List.mem_append_right _ (List.mem_singleton.mpr rfl)
  · rintro σ H' ⟨Z1, cs, u6, u7, u8, u9, u10, rfl, C, lc, hs4⟩
    tm_at "run"
    exact fin_wl hs4 .here (.there .here) (k cs ⟨C.good, by omega, C.src⟩)


end


set_option pp.deepTerms false
set_option pp.deepTerms.threshold 20
set_option pp.maxSteps 2500

/-! my own steps: rows of tactics, tried from above -/

/-! steps over Hs -/












/-! the law's stock -/
structure StG (po : Nat) (m : Int) (mu : Mns) (zs : List Str) (t f : Int) (cs : List Ch) (ts : List (Str × Int)) : Prop where
  code : CdG m 1 mu zs
  ports : mu.length = po
  book : isBook t f cs = true
  sml : Sml 112 cs
  first : f < t
  some : 1 ≤ ts.length ∧ ts.length ≤ 7
  few : ∀ x ∈ ts, x.1.length ≤ 20
def spLStock (K : PySem.W.Frag) : Sp := fun vs H Q _ => ∃ (a : Addr) (po : Nat) (most : Int), vs = [.ref a, .int (po : Nat), .int most] ∧ Pool H a ∧ (1 ≤ po ∧ po ≤ 8) ∧ (0 ≤ most ∧ most ≤ 4) ∧
  ∀ (p : Addr) (H' : Hp) (sv tv : V) (m : Int) (mu : Mns) (zs : List Str) (t f : Int) (cs : List Ch) (ts : List (Str × Int)) (Zr : List Addr), Kp [a] H H' → Pool H' a → (∀ z ∈ Zr, H z = none) → (∀ z ∈ Zr, ∃ o, H' z = some o) → H' p = some (.tup [sv, tv]) →
    StAt K sv m 1 mu zs t f cs Zr H' → Dt K Zr H' tv (.list (ts.map eTh)) → StG po m mu zs t f cs ts → Q (.ref p) H'
theorem mul_S (c : Nat) (n : Int) (h : 1 ≤ n) : Txt.mul ⟨#[c]⟩ n = SX.S (List.replicate n.toNat c) := by
  unfold Txt.mul
  rw [if_neg (by omega)]
  split
  · rename_i hc
    rw [Bool.or_eq_true, beq_iff_eq, beq_iff_eq] at hc
    rcases hc with h1 | h1
    · rw [h1]; rfl
    · cases h1
  · have e : ∀ (k : Nat) (acc : Array Nat), ((List.replicate k (#[c] : Array Nat)).foldl (· ++ ·) acc) = acc ++ (List.replicate k c).toArray := by
      intro k
      induction k with
      | zero => intro acc; simp
      | succ k ih =>
        intro acc
        rw [List.replicate_succ, List.foldl_cons, ih]
        apply Array.ext'
        simp [List.replicate_succ]
    show Str.mk _ = _
    rw [e]
    simp
theorem thg_len (zs : List Str) (a b : Int) : (thg zs a b).length ≤ 2 * zs.length := by
  unfold thg
  rw [List.length_append, List.length_map]
  split
  · simp; omega
  · rw [List.length_map]; omega
theorem thg_pos (zs : List Str) (a b : Int) : zs.length ≤ (thg zs a b).length := by
  unfold thg
  rw [List.length_append, List.length_map]
  omega
theorem thg_mem {zs : List Str} {a b : Int} {x : Str × Int} (h : x ∈ thg zs a b) : x.1 ∈ zs ∧ (x.2 = a ∨ x.2 = b) := by
  unfold thg at h
  rcases List.mem_append.mp h with h | h
  · obtain ⟨z, hz, rfl⟩ := List.mem_map.mp h
    exact ⟨hz, .inl rfl⟩
  · split at h
    · cases h
    · obtain ⟨z, hz, rfl⟩ := List.mem_map.mp h
      exact ⟨hz, .inr rfl⟩
theorem thg_nd {zs : List Str} {a b : Int} (h : zs.Nodup) : (thg zs a b).Nodup := by
  unfold thg
  have n1 : ∀ c : Int, (zs.map fun z => (z, c)).Nodup := fun c => nodup_map (fun _ _ z => (Prod.mk.inj z).1) h
  rw [List.nodup_append]
  refine ⟨n1 a, ?_, fun x hx y hy => ?_⟩
  · split
    · exact List.nodup_nil
    · exact n1 b
  · split at hy
    · cases hy
    · rename_i ne
      obtain ⟨z, _, rfl⟩ := List.mem_map.mp hx
      obtain ⟨z2, _, rfl⟩ := List.mem_map.mp hy
      exact fun e => ne (Prod.mk.inj e).2.symm
theorem z_is : Str.ofString "z" = ⟨#[122]⟩ := by decide +kernel
theorem z_name {n : Nat} (h0 : 1 ≤ n) (h1 : n ≤ 20) : isName (SX.S (List.replicate n 122)) = true := by
  refine isName_S ⟨?_, ?_⟩ (by rw [List.length_replicate]; exact h1)
  · cases n with
    | zero => omega
    | succ n => rw [List.replicate_succ]; rfl
  · rw [List.all_eq_true]
    intro c hc
    rw [(List.mem_replicate.mp hc).2]
    rfl

section
variable {P : Program} {w : World} {K : PySem.W.Frag} {mg : Str → Option Value} {base : Heap} {CPlainBook CCodeBook CStock COddsError CBadShare CBadText CBadBook CBadMove CBadProgram CBadPlan CUnfit CTooLarge CBadEdit CCODE_FORMS CIDLE : Addr}
theorem ok_l_stock (T : Txt P w K mg CPlainBook CCodeBook CStock COddsError CBadShare CBadText CBadBook CBadMove CBadProgram CBadPlan CUnfit CTooLarge CBadEdit CCODE_FORMS CIDLE) : Fc P w K mg base CX0 3 "_law_stock" ["pool", "ports", "most"] (spLStock K) := by
  refine fc_of T.d_l_stock sc_l_stock (fun vs H Q E h => by obtain ⟨a, po, most, rfl, pool, ⟨po1, po8⟩, ⟨m0, m4⟩, k⟩ := h; rfl) (fun _ _ _ _ _ _ us hl => match us, hl with | [_, _, _], _ => rfl) fun f cdv A outer s H vs Q E hr h => ⟨_, (pss_cons (ps_set (i := 3) sc_l_stock.nd rfl (Or.inl rfl) (pe_op op_add pe_int (pe_fc (ok_l_draw T) pass0 (hr.mono (by omega)) (pa_cons (pv 0) (pa_cons pe_int pa_nil)))))
 (pss_cons (ps_set (i := 4) sc_l_stock.nd rfl (Or.inl rfl) (pe_slice (sllK K) (pe_fc (ok_l_names T) pass0 (hr.mono (by omega)) (pa_cons (pv 0) pa_nil)) po_none (po_some (pe_op op_add pe_int (pe_fc (ok_l_draw T) pass0 (hr.mono (by omega)) (pa_cons (pv 0) (pa_cons pe_int pa_nil)))))))
 (pss_cons (ps_set (i := 5) sc_l_stock.nd rfl (Or.inl rfl) (pe_fc (ok_l_things T) pass0 (hr.mono (by omega)) (pa_cons (pv 0) (pa_cons (pv 4) (pa_cons (pv 3) pa_nil)))))
 (pss_cons (ps_set (i := 6) sc_l_stock.nd rfl (Or.inl rfl) (pe_lst pa_nil))
 (pss_cons (ps_for PassesOwn.never rfl (pi_range1 (by rfl) T.n_range (pa_cons (pv 1) pa_nil)) (pg_name (i := 7) sc_l_stock.nd rfl (Or.inl rfl))
 (pss_cons (ps_setLc (i := 8) (own := [("thing", 17)]) (g := (gName 17)) rfl sc_l_stock.nd rfl rfl (sw_true rfl rfl rfl (by decide +kernel)) (piLK K (pv 5)) (blkOk_by (own := [("thing", 17)]) (N := ["pool", "ports", "most", "modulus", "names", "things", "menus", "p", "menu", "cut", "deeds", "step", "homes", "choices", "total", "plain", "k", "thing", "name"]) (sc := defScope s_l_stock) (by decide +kernel)) (fun _ _ _ _ _ => (pg_name (i := 17) sc_l_stock.nd rfl (Or.inl rfl))) (fun _ _ _ _ _ => (pts_one (pt_cmpR op_lt (pe_fc (ok_l_draw T) pass0 (hr.mono (by omega)) (pa_cons (pv 0) (pa_cons pe_int pa_nil))) pe_int (nomark _)))) (fun _ _ _ _ _ => (pv 17)))
 (pss_cons (ps_set (i := 9) sc_l_stock.nd rfl (Or.inl rfl) (pe_fc (ok_l_draw T) pass0 (hr.mono (by omega)) (pa_cons (pv 0) (pa_cons (pe_op op_add (pe_callB (lenK K) (by rfl) T.n_len b_len (pa_cons (pv 8) pa_nil)) pe_int) pa_nil))))
 (pss_one (ps_expr (pe_bm PySem.F.plainAttrs_list PySem.F.slot_list_append PySem.F.type_list_append mt_append (pv 6) (pa_cons (pe_callTy (tupK K) (by rfl) T.n_tuple b_tuple (pa_cons (pe_op o_catL (pe_slice (sllK K) (pv 8) (po_some (pv 9)) po_none) (pe_slice (sllK K) (pv 8) po_none (po_some (pv 9)))) pa_nil)) pa_nil)))))))
 (pss_cons (ps_set (i := 10) sc_l_stock.nd rfl (Or.inl rfl) (pe_callTy (tupK K) (by rfl) T.n_tuple b_tuple (pa_cons (pe_lc (own := [("name", 18)]) (g := (gName 18)) (tt := tYes) rfl sc_l_stock.nd (piLK K (pv 4)) (blkOk_by (own := [("name", 18)]) (N := ["pool", "ports", "most", "modulus", "names", "things", "menus", "p", "menu", "cut", "deeds", "step", "homes", "choices", "total", "plain", "k", "thing", "name"]) (sc := defScope s_l_stock) (by decide +kernel)) (fun _ _ _ _ _ => (pg_name (i := 18) sc_l_stock.nd rfl (Or.inl rfl))) (fun _ _ _ _ _ => pts_nil) (fun _ _ _ _ _ => (pe_tup (pa_cons (pv 18) (pa_cons (pe_tup (pa_cons (pe_tup (pa_cons (pe_tup (pa_cons pe_str (pa_cons pe_int pa_nil))) (pa_cons pe_bl pa_nil))) pa_nil)) pa_nil))))) pa_nil)))
 (pss_cons (ps_set (i := 11) sc_l_stock.nd rfl (Or.inr rfl) (pe_ix (ixlK K) (pe_lst (pa_cons pe_int (pa_cons (pe_op op_add pe_int (pe_fc (ok_l_draw T) pass0 (hr.mono (by omega)) (pa_cons (pv 0) (pa_cons pe_int pa_nil)))) pa_nil))) (pe_fc (ok_l_draw T) pass0 (hr.mono (by omega)) (pa_cons (pv 0) (pa_cons pe_int pa_nil))) (fun _ _ => rfl)))
 (pss_cons (ps_setLc (i := 12) (own := [("k", 16)]) (g := (gName 16)) (tt := tYes) rfl sc_l_stock.nd rfl rfl (sw_true rfl rfl rfl (by decide +kernel)) (pi_range1 (by rfl) T.n_range (pa_cons (pe_op op_add pe_int (pe_fc (ok_l_draw T) pass0 (hr.mono (by omega)) (pa_cons (pv 0) (pa_cons pe_int pa_nil)))) pa_nil)) (blkOk_by (own := [("k", 16)]) (N := ["pool", "ports", "most", "modulus", "names", "things", "menus", "p", "menu", "cut", "deeds", "step", "homes", "choices", "total", "plain", "k", "thing", "name"]) (sc := defScope s_l_stock) (by decide +kernel)) (fun _ _ _ _ _ => (pg_name (i := 16) sc_l_stock.nd rfl (Or.inl rfl))) (fun _ _ _ _ _ => pts_nil) (fun _ _ _ _ _ => (pe_op op_mulX (pv 11) (pv 16))))
 (pss_cons (ps_expr (pe_bm PySem.F.plainAttrs_list PySem.F.slot_list_append PySem.F.type_list_append mt_append (pv 5) (pa_cons (pe_tup (pa_cons (pe_op o_repG pe_str (pe_op op_add pe_int (pe_callB (cr_max rfl) (by rfl) T.n_max b_max (pa_cons (pe_lc (own := [("name", 18)]) (g := (gName 18)) (tt := tYes) rfl sc_l_stock.nd (piLK K (pv 4)) (blkOk_by (own := [("name", 18)]) (N := ["pool", "ports", "most", "modulus", "names", "things", "menus", "p", "menu", "cut", "deeds", "step", "homes", "choices", "total", "plain", "k", "thing", "name"]) (sc := defScope s_l_stock) (by decide +kernel)) (fun _ _ _ _ _ => (pg_name (i := 18) sc_l_stock.nd rfl (Or.inl rfl))) (fun _ _ _ _ _ => pts_nil) (fun _ _ _ _ _ => (pe_callB c_lenS (by rfl) T.n_len b_len (pa_cons (pv 18) pa_nil)))) pa_nil)))) (pa_cons pe_int pa_nil))) pa_nil)))
 (pss_cons (ps_set (i := 13) sc_l_stock.nd rfl (Or.inl rfl) (pe_fc (ok_l_choices T) pass0 (hr.mono (by omega)) (pa_cons (pv 0) (pa_cons (pv 5) (pa_cons (pv 12) (pa_cons (pv 2) pa_nil))))))
 (pss_cons (ps_set (i := 14) sc_l_stock.nd rfl (Or.inl rfl) (pe_op op_add (pe_op op_add (pe_ix (ixlK K) (pv 12) (pe_op op_sub (pe_callB (lenK K) (by rfl) T.n_len b_len (pa_cons (pv 12) pa_nil)) pe_int) (fun _ _ => rfl)) pe_int) (pe_fc (ok_l_draw T) pass0 (hr.mono (by omega)) (pa_cons (pv 0) (pa_cons pe_int pa_nil)))))
 (pss_cons (ps_set (i := 15) sc_l_stock.nd rfl (Or.inl rfl) (pe_fc (ok_l_plain T) pass0 (hr.mono (by omega)) (pa_cons (pv 14) (pa_cons (pe_ix (ixlK K) (pv 12) (pe_fc (ok_l_draw T) pass0 (hr.mono (by omega)) (pa_cons (pv 0) (pa_cons (pe_callB (lenK K) (by rfl) T.n_len b_len (pa_cons (pv 12) pa_nil)) pa_nil))) (fun _ _ => rfl)) (pa_cons (pv 13) pa_nil)))))
 (pss_one (ps_ret (pe_tup (pa_cons (pe_tup (pa_cons (pe_fc (ok_l_code T) pass0 (hr.mono (by omega)) (pa_cons (pv 3) (pa_cons pe_int (pa_cons (pe_tup pa_nil) (pa_cons (pe_tup pa_nil) (pa_cons (pe_callTy (tupK K) (by rfl) T.n_tuple b_tuple (pa_cons (pv 6) pa_nil)) (pa_cons (pv 10) pa_nil))))))) (pa_cons (pv 15) pa_nil))) (pa_cons (pv 5) pa_nil))))))))))))))))), ?_⟩
  obtain ⟨a, po, most, rfl, pool, ⟨po1, po8⟩, ⟨m0, m4⟩, k⟩ := h
  have hs : Hs K ⟨H, [a], []⟩ [] H [.pool a] [] := (in_w (Z := []) (vs := []) (ds := []) pool (fun z => by cases z) (fun _ z => by cases z) .nil).tl
  tm_at "go"
  rename_i r0 H1 r00 r01 _ zs0 hz0 p0 Z1 H2 zz1 _ r1 H3 r10 r11 _ p1 H4 hs1
  obtain ⟨z3, zn, znd⟩ := hz0
  have hs1 : Hs K ⟨H, [a], []⟩ Z1 H4 [.dl K p1 (U.cutD (zs0.map PyData.str) none (some (1 + r1))) true, .pool a] [] := by tm_at "wk"
  rw [cut_tkF PyData.str zs0 (by omega)] at hs1
  obtain ⟨zs, ez⟩ : ∃ zs, zs = zs0.take (1 + r1).toNat := ⟨_, rfl⟩
  rw [← ez] at hs1
  have lz : 1 ≤ zs.length ∧ zs.length ≤ 3 := by rw [ez, List.length_take]; omega
  have gz : ∀ z ∈ zs, isName z = true ∧ z.length ≤ 19 := fun z hz => zn z (List.mem_of_mem_take (by rw [ez] at hz; exact hz))
  have nz : zs.Nodup := by rw [ez]; exact znd.sublist (List.take_sublist _ _)
  clear ez zn znd
  have hs2 := hs1.freeze .here
  have m28 : 2 ≤ 2 + r0 ∧ 2 + r0 ≤ 8 := by omega
  generalize 2 + r0 = m at m28 ⊢
  obtain ⟨m2, m8⟩ := m28
  clear hs hs1
  tm_at "run"
  rename_i a1 b1 hab p2 Z2 H5 zz2 _ q H6 hs3
  obtain ⟨⟨a10, a11⟩, b10, b11⟩ := hab
  have tl := thg_len zs a1 b1
  have tp := thg_pos zs a1 b1
  have tm : ∀ x ∈ thg zs a1 b1, x.1 ∈ zs ∧ 0 ≤ x.2 ∧ x.2 < m := fun x hx => by
    obtain ⟨h1, h2⟩ := thg_mem hx
    exact ⟨h1, by omega, by omega⟩
  have tnd := thg_nd (a := a1) (b := b1) nz
  generalize thg zs a1 b1 = ts at tl tp tm tnd hs3 ⊢
  have lt : (ts.map eTh).length = ts.length := List.length_map _
  clear hs2
  refine l_range (fun i σ H' => ∃ (Z3 : List Addr) (mu : Mns) (u7 u8 u9 u16 u17 u18 : Option V), σ = [some (.ref a), some (.int (po : Nat)), some (.int most), some (.int m), some (.ref p1), some (.ref p2), some (.ref q), u7, u8, u9, none, none, none, none, none, none, u16, u17, u18] ∧ mu.length = i ∧ (∀ t ∈ mu, MnG zs m t) ∧
    Hs K ⟨H, [a], []⟩ Z3 H' [.dl K q (mu.map fun t => .tuple (t.map eTh)) true, .dl K p2 (ts.map eTh) true, .pool a] [([.ref p1], [.list (zs.map PyData.str)])]) ?_ ?_ ?_
  · exact ⟨Z2, [], none, none, none, none, none, none, rfl, rfl, (fun _ z => by cases z), hs3⟩
  · rintro i σ H7 hi ⟨Z3, mu, u7, u8, u9, u16, u17, u18, rfl, lmu, gmu, hs4⟩
    have lm : (mu.map fun t => PyData.tuple (t.map eTh)).length = mu.length := List.length_map _
    clear hs3
    tm_at "run"
    refine h_lcL (ts.map eTh) (fun i acc => ∃ sub : List (Str × Int), acc = sub.map eTh ∧ sub.Sublist (ts.take i)) hs4 (fun D acc Z' H' h => h.dlv (.there (.there .here))) ⟨[], rfl, List.nil_sublist _⟩ (fun D i2 d x2 acc Z4 H9 hd2 hr hacc hz hs9 => ?_) (fun D acc Z4 H9 hr hacc hz hs9 => ?_)
    · obtain ⟨y, he, rfl⟩ := at_map hd2
      have hi2 : i2 < 100000 := by have := (List.getElem?_eq_some_iff.mp he).1; omega
      obtain ⟨sub, rfl, sl⟩ := hr
      clear hs4
      tm_at "run"
      · exact ⟨sub ++ [y], by rw [List.map_append]; rfl, by rw [_root_.Fr.take_more he]; exact sl.append (List.Sublist.refl _)⟩
      · exact ⟨sub, rfl, by rw [_root_.Fr.take_more he]; exact sl.trans (List.sublist_append_left _ _)⟩
    obtain ⟨sub, rfl, sl⟩ := hr
    rw [lt, List.take_length] at sl
    have ls := sl.length_le
    have lsm : (sub.map eTh).length = sub.length := List.length_map _
    clear hs4
    tm_at "run"
    rename_i c H8 c0 c1 _ pa H10 _ pb H11 hs10
    have hs10 : Hs K ⟨H, [a], []⟩ Z4 H11 [.dl K pb (U.cutD (sub.map eTh) none (some c)) true, .dl K pa (U.cutD (sub.map eTh) (some c) none) true, .dl K D (sub.map eTh) true, .dl K q (mu.map fun t => .tuple (t.map eTh)) true, .dl K p2 (ts.map eTh) true, .pool a] [([.ref p1], [.list (zs.map PyData.str)])] := by tm_at "wk"
    rw [cut_drF eTh sub (by omega), cut_tkF eTh sub (by omega)] at hs10
    have pm : (sub.drop c.toNat ++ sub.take c.toNat).Perm sub := List.perm_append_comm.trans (by rw [List.take_append_drop])
    have gm : MnG zs m (sub.drop c.toNat ++ sub.take c.toNat) := ⟨by rw [pm.length_eq]; omega, pm.nodup_iff.mpr (tnd.sublist sl), fun x hx => tm x (sl.subset (pm.mem_iff.mp hx))⟩
    have l1 : ((sub.drop c.toNat).map eTh).length ≤ 6 := by rw [List.length_map, List.length_drop]; omega
    have l2 : ((sub.take c.toNat).map eTh).length ≤ 6 := by rw [List.length_map, List.length_take]; omega
    have e2 : (sub.drop c.toNat).map eTh ++ (sub.take c.toNat).map eTh = (sub.drop c.toNat ++ sub.take c.toNat).map eTh := (List.map_append ..).symm
    clear hs9
    generalize (sub.drop c.toNat).map eTh = da at l1 e2 hs10
    generalize (sub.take c.toNat).map eTh = db at l2 e2 hs10
    tm_at "run"
    rename_i pc H12 hs12 pd H13 hs13 H14 hs14
    rw [e2] at hs14
    refine ⟨Z4, mu ++ [sub.drop c.toNat ++ sub.take c.toNat], _, _, _, _, _, _, rfl, by rw [List.length_append]; rw [lmu]; rfl, fun t ht => ?_, ?_⟩
    · rcases List.mem_append.mp ht with y | y
      · exact gmu t y
      · rw [List.mem_singleton.mp y]; exact gm
    · rw [List.map_append]
      show Hs K ⟨H, [a], []⟩ Z4 H14 [.dl K q ((mu.map fun t => PyData.tuple (t.map eTh)) ++ [.tuple ((sub.drop c.toNat ++ sub.take c.toNat).map eTh)]) true, .dl K p2 (ts.map eTh) true, .pool a] [([.ref p1], [.list (zs.map PyData.str)])]
      tm_at "wk"
  · rintro σ H7 ⟨Z3, mu, u7, u8, u9, u16, u17, u18, rfl, lmu, gmu, hs4⟩
    have lmu : mu.length = po := by omega
    clear hs3
    tm_at "run"
    refine h_lcL (zs.map PyData.str) (fun i acc => acc = (zs.take i).map eDd) hs4 (fun D acc Z' H' h => by tm_at "lr") rfl (fun D i2 d x2 acc Z5 H9 hd2 hr hacc hz hs9 => ?_) (fun D acc Z5 H9 hr hacc hz hs9 => ?_)
    · obtain ⟨z, he, rfl⟩ := at_map hd2
      have hi2 : i2 < 100000 := by have := (List.getElem?_eq_some_iff.mp he).1; omega
      clear hs4
      tm_at "run"
      show _ = _
      rw [_root_.Fr.take_more he, map_snoc, hr]
    have lzz : (zs.map PyData.str).length = zs.length := List.length_map _
    rw [lzz, List.take_length] at hr
    rw [hr] at hs9
    clear hs4
    tm_at "run"
    rename_i pd H10 _ r2 H11 r20 r21 _ pe H12 _ r3 H13 r30 r31 hs10
    have ins : ∀ d ∈ [PyData.int 1, PyData.int (1 + r2)], ∃ z : Int, d = .int z ∧ 1 ≤ z ∧ z ≤ 199 := fun d hd => by
      simp only [List.mem_cons, List.not_mem_nil, or_false] at hd
      rcases hd with rfl | rfl <;> exact ⟨_, rfl, by omega, by omega⟩
    refine h_ixLn (lo := 1) (hi := 199) hs10 (by tm_at "lr") (by omega) (by show _ < (2 : Int); omega) ins fun step s1 s199 => ?_
    have hs11 : Hs K ⟨H, [a], []⟩ Z5 H13 [.dl K q (mu.map fun t => .tuple (t.map eTh)) true, .dl K p2 (ts.map eTh) true, .pool a] [([.ref pd], [eDs zs]), ([.ref p1], [.list (zs.map PyData.str)])] := by tm_at "wk"
    clear hs9 hs10
    tm_at "run"
    rename_i r4 H14 r40 r41 hs12
    refine h_lcR (fun j acc => acc = (List.range j).map fun n => PyData.int (step * (n : Nat))) hs12 rfl (fun D i2 acc Z6 H9 hi2 hr hacc hz hs9 => ?_) (fun D acc Z6 H9 hr hacc hz hs9 => ?_)
    · have hi3 : i2 < 100000 := by omega
      clear hs11 hs12
      tm_at "run"
      show _ = _
      rw [List.range_succ, List.map_append, hr, Int.zero_add]
      rfl
    obtain ⟨n, en⟩ : ∃ n : Nat, (1 + r4).toNat = n := ⟨_, rfl⟩
    rw [en] at hr hacc
    have n14 : 1 ≤ n ∧ n ≤ 4 := by omega
    obtain ⟨homes, eh⟩ : ∃ homes : List Int, homes = (List.range n).map fun j => step * (j : Nat) := ⟨_, rfl⟩
    have hr : acc = homes.map PyData.int := by rw [hr, eh, List.map_map]; rfl
    rw [hr] at hs9
    have lh : homes.length = n := by rw [eh, List.length_map, List.length_range]
    clear hs11 hs12
    tm_at "run"
    refine h_lcL (zs.map PyData.str) (fun j acc => acc = ((zs.take j).map fun z => (z.length : Int)).map PyData.int) hs9 (fun D acc Z' H' h => by tm_at "lr") rfl (fun D2 i2 d x2 acc Z7 H10 hd2 hr hacc hz hs10 => ?_) (fun D2 acc Z7 H10 hr hacc hz hs10 => ?_)
    · obtain ⟨z, he, rfl⟩ := at_map hd2
      have hi2 : i2 < 100000 := by have := (List.getElem?_eq_some_iff.mp he).1; omega
      obtain rfl := (hs10.dt List.mem_cons_self).str_inv
      have z19 := (gz z (List.mem_of_getElem? he)).2
      clear hs9
      tm_at "run"
      show _ = _
      rw [_root_.Fr.take_more he, List.map_append, List.map_append, hr]
      rfl
    rw [lzz, List.take_length] at hr
    rw [hr] at hs10
    clear hs9
    tm_at "run"
    refine h_maxL (zs.map fun z => (z.length : Int)) (by tm_at "lr") (by rw [List.length_map]; omega) fun mx mx1 mx2 => ?_
    have mx20 : 1 ≤ mx ∧ mx ≤ 19 := by
      obtain ⟨z, hz1, rfl⟩ := List.mem_map.mp mx1
      obtain ⟨g1, g2⟩ := gz z hz1
      unfold isName at g1
      simp only [Bool.and_eq_true, decide_eq_true_eq] at g1
      omega
    tm_at "run"
    refine ⟨Str.ofString "z", 1 + mx, rfl, rfl, by omega, by omega, by decide, ?_⟩
    rw [z_is, mul_S 122 (1 + mx) (by omega)]
    have ln : (SX.S (List.replicate (1 + mx).toNat 122)).length = (1 + mx).toNat := by rw [SX.S_len, List.length_replicate]
    have gn := z_name (n := (1 + mx).toNat) (by omega) (by omega)
    have nn : ∀ x ∈ ts, x ≠ (SX.S (List.replicate (1 + mx).toNat 122), (7 : Int)) := fun x hx e => by
      have h1 := mx2 x.1.length (List.mem_map.mpr ⟨x.1, (tm x hx).1, rfl⟩)
      rw [e, ln] at h1
      omega
    generalize SX.S (List.replicate (1 + mx).toNat 122) = zz at ln gn nn
    tm_at "run"
    rename_i _ _ _ H15 hs15
    have et : (ts ++ [(zz, (7 : Int))]).map eTh = ts.map eTh ++ [.tuple [.str zz, .int 7]] := by rw [List.map_append]; rfl
    have hs15 : Hs K ⟨H, [a], []⟩ Z7 H15 [.dl K D (homes.map PyData.int) true, .dl K q (mu.map fun t => .tuple (t.map eTh)) true, .dl K p2 (ts.map eTh ++ [.tuple [.str zz, .int 7]]) true, .pool a] [([.ref pd], [eDs zs]), ([.ref p1], [.list (zs.map PyData.str)])] := by tm_at "wk"
    rw [← et] at hs15
    have nd2 : (ts ++ [(zz, (7 : Int))]).Nodup := by
      rw [List.nodup_append]
      exact ⟨tnd, by simp, fun x hx y hy => by rw [List.mem_singleton.mp hy]; exact nn x hx⟩
    have g2 : ∀ x ∈ ts ++ [(zz, (7 : Int))], isName x.1 = true ∧ x.1.length ≤ 20 ∧ 0 ≤ x.2 ∧ x.2 ≤ 7 := fun x hx => by
      rcases List.mem_append.mp hx with y | y
      · obtain ⟨h1, h2, h3⟩ := tm x y
        obtain ⟨h4, h5⟩ := gz x.1 h1
        exact ⟨h4, by omega, h2, by omega⟩
      · rw [List.mem_singleton.mp y]
        exact ⟨gn, by show zz.length ≤ 20; omega, by show (0 : Int) ≤ 7; decide, by show (7 : Int) ≤ 7; decide⟩
    have l2 : 1 ≤ (ts ++ [(zz, (7 : Int))]).length ∧ (ts ++ [(zz, (7 : Int))]).length ≤ 7 := by rw [List.length_append, List.length_singleton]; omega
    generalize ts ++ [(zz, (7 : Int))] = ts2 at hs15 nd2 g2 l2
    have nh : homes.Nodup := by
      rw [eh]
      refine List.pairwise_map.mpr (List.Pairwise.imp (fun {x y} h z => h ?_) (List.nodup_range (n := n)))
      have := Int.eq_of_mul_eq_mul_left (show step ≠ 0 by omega) z
      omega
    have hs16 := (hs15.freeze .here).freeze (.there .here)
    have prec : (1 ≤ ts2.length ∧ ts2.length ≤ 7 ∧ ts2.Nodup ∧ ∀ x ∈ ts2, x.1.length ≤ 20) ∧ (1 ≤ homes.length ∧ homes.length ≤ 4 ∧ homes.Nodup) ∧ (0 ≤ most ∧ most ≤ 4) := ⟨⟨l2.1, l2.2, nd2, fun x hx => (g2 x hx).2.1⟩, ⟨by omega, by omega, nh⟩, m0, m4⟩
    clear hs10 hs15
    tm_at "run"
    rename_i cs hcs p3 Z8 H16 zz8 hs17
    obtain ⟨gg, lcs, src⟩ := hcs
    obtain ⟨n1, rfl⟩ : ∃ n1, n = n1 + 1 := ⟨n - 1, by omega⟩
    have hlo : ∀ h ∈ homes, 0 ≤ h ∧ h ≤ step * (n1 : Nat) := fun h hh => by
      rw [eh] at hh
      obtain ⟨j, hj, rfl⟩ := List.mem_map.mp hh
      have hj := List.mem_range.mp hj
      have h1 : (j : Int) ≤ (n1 : Int) := by omega
      exact ⟨Int.mul_nonneg (by omega) (by omega), Int.mul_le_mul_of_nonneg_left h1 (by omega)⟩
    have hmx : step * (n1 : Nat) ≤ 597 := by
      have h1 : step * (n1 : Int) ≤ 199 * 3 := Int.mul_le_mul s199 (by omega) (by omega) (by omega)
      omega
    have hmn : 0 ≤ step * (n1 : Nat) := Int.mul_nonneg (by omega) (by omega)
    have e1 : ((((homes.map PyData.int).length : Nat) : Int) - 1) = ((n1 : Nat) : Int) := by rw [List.length_map]; omega
    have e2 : atI (homes.map PyData.int) ((n1 : Nat) : Int) = some (.int (step * (n1 : Nat))) := by
      refine atI_nat ?_
      rw [eh, List.map_map, List.getElem?_map, List.getElem?_range (by omega)]
      rfl
    rw [e1]
    refine h_ixLi hs17 (by tm_at "lr") e2 ?_
    generalize step * ((n1 : Nat) : Int) = top at hlo hmx hmn
    have hs18 := hs17.freeze .here
    have lhm : (homes.map PyData.int).length = homes.length := List.length_map _
    clear hs16 hs17
    tm_at "run"
    rename_i r5 H17 r50 r51 _ r6 H18 r60 r61 hs19
    refine h_ixLf hs19 (l := homes) (by tm_at "lr") (by omega) (by omega) fun fs hfs xf df _ => ?_
    obtain rfl := df.int_inv
    have top1 := hlo fs hfs
    have tot : 1 ≤ top + 1 + r5 ∧ top + 1 + r5 ≤ 600 ∧ top < top + 1 + r5 := by omega
    generalize top + 1 + r5 = tt at tot
    have lcs2 : Sml 112 cs := ⟨lcs, fun c hc => by have := (g2 _ (src c hc).2.2.1).2.1; exact Nat.le_trans this (by decide)⟩
    have bk : isBook tt fs cs = true := by
      rw [isBook_iff]
      rw [goodG_iff] at gg
      refine ⟨by omega, fun c hc => ⟨?_, gg c hc⟩⟩
      obtain ⟨c1, c2, c3, c4, c5⟩ := src c hc
      obtain ⟨g1, _, g3, g4⟩ := g2 _ c3
      have h1 := hlo _ c1
      have h2 := hlo _ c2
      rw [okCh_iff]
      exact ⟨g1, h1.1, by omega, h2.1, by omega, g3, g4, c4, c5⟩
    clear hs18 df
    tm_at "run"
    refine ⟨p3 :: Z8, tt, fs, .ref p3, cs, rfl, hs19.zl, by tm_at "dt", ⟨by have := lcs2.1; omega, lcs2.2⟩, fun Zr x H19 k19 zn19 zl19 pl => ?_⟩
    have hs20 := ((hs19.same k19).addZ (Zr := Zr) hs19 zn19 zl19).fa pl_stay (pl_stay.zs _ _ _ (List.subset_append_left _ _) pl)
    have lmm : (mu.map fun t => PyData.tuple (t.map eTh)).length = mu.length := List.length_map _
    clear hs19
    tm_at "run"
    rename_i q1 _ _ q2 _ _ q3 H20 hs21
    refine ⟨Zr ++ p3 :: Z8, m, 1, .ref q1, .ref q2, .ref q3, .ref pd, mu, zs, rfl, hs21.zl, by tm_at "dts", by omega, fun y H21 k21 cd => ?_⟩
    have hs22 := (hs21.same k21).fa cd_stay cd
    clear hs20 hs21
    tm_at "run"
    rename_i q4 H22 hs23 q5 H23 hs24
    have hsE : Hs K ⟨H, [a], []⟩ (Zr ++ p3 :: Z8) H23 [.obj q5 (.tup [.ref q4, .ref p2]) true, .obj q4 (.tup [y, x]) true, .fa (CdAt K y m 1 mu zs) cd_stay, .fa (PlAt K x tt fs cs) pl_stay, .pool a] [([.ref p2], [.list (ts2.map eTh)])] := by tm_at "wk"
    refine k q5 H23 (.ref q4) (.ref p2) m mu zs tt fs cs ts2 _ hsE.kp (hsE.pool (by tm_at "loc")) (fun z hz => ?_) hsE.zl (hsE.obj (by tm_at "loc")) ⟨q4, y, x, rfl, hsE.obj (by tm_at "loc"), hsE.get (.there (.there .here)), hsE.get (.there (.there (.there .here)))⟩ (by tm_at "dt") ⟨?_, lmu, bk, lcs2, by omega, l2, fun z hz => (g2 z hz).2.1⟩
    · rcases hsE.znW (by tm_at "loc") z hz with w | w
      · cases w
      · exact w
    · exact ⟨⟨by omega, by omega, by decide, by decide⟩, ⟨⟨by omega, by omega⟩, fun z hz => ⟨(gz z hz).1, by have := (gz z hz).2; omega⟩, nz⟩, ⟨by omega, by omega⟩, gmu⟩


end



/-! my own steps: rows of tactics, tried from above -/

/-! steps over Hs -/













theorem h_gtupF {K : PySem.W.Frag} {B : Bs} {H : Hp} {Z : List Addr} {L : List Ent} {M : List (List V × List PyData)} {F : Ent → List Ent} {p : Addr} {xs : List V} {n : Nat} {g : TGs} {σ : L2.St} {R : L2.St → Hp → Prop} (h : Hs K B Z H L M) (l : Loc L (.fa (TupF p xs) tf_stay) F) (hl : xs.length = n) (k : g xs σ H R) : gTup K n g (.ref p) σ H R :=
  ⟨p, xs, rfl, TupAt.sq (h.get l : TupF p xs Z H), hl, k⟩
theorem u_gcons {g : TG} {gs : TGs} {v : V} {vs : List V} {σ : L2.St} {H : Hp} {R : L2.St → Hp → Prop} (k : g v σ H fun σ2 H2 => gs vs σ2 H2 R) : gCons g gs (v :: vs) σ H R := ⟨v, vs, rfl, k⟩
theorem u_gnil {σ : L2.St} {H : Hp} {R : L2.St → Hp → Prop} (k : R σ H) : gNil [] σ H R := ⟨rfl, k⟩
def spLState (K : PySem.W.Frag) : Sp := fun vs H Q _ => ∃ (a : Addr) (sv tv : V) (most : Int) (po : Nat) (m : Int) (mu : Mns) (zs : List Str) (t f : Int) (cs : List Ch) (ts : List (Str × Int)) (Z : List Addr), vs = [.ref a, sv, tv, .int most] ∧ Pool H a ∧ a ∉ Z ∧ (∀ z ∈ Z, ∃ o, H z = some o) ∧
  StAt K sv m 1 mu zs t f cs Z H ∧ Dt K Z H tv (.list (ts.map eTh)) ∧ StG po m mu zs t f cs ts ∧ (0 ≤ most ∧ most ≤ 8) ∧
  ∀ v H' n ms, Kp [a] H H' → Pool H' a → ms.length = mu.length → Dt K [] H' v (eS n ms) → Q v H'
theorem h_ixTm {K : PySem.W.Frag} {B : Bs} {H : Hp} {Z : List Addr} {L : List Ent} {M : List (List V × List PyData)} {v : V} {ds : List PyData} {i : Int} {Q : VK} (h : Hs K B Z H L M) (l : Dt K Z H v (.tuple ds)) (h0 : 0 ≤ i) (h1 : i < ds.length) (k : ∀ d ∈ ds, ∀ x, Dt K Z H x d → Hs K B Z H L (([x], [d]) :: M) → Q x H) : rIxT K v (.int i) H Q := by
  obtain ⟨n, rfl⟩ : ∃ n : Nat, i = (n : Int) := ⟨i.toNat, by omega⟩
  have hn : n < ds.length := by omega
  have e : ds[n]? = some ds[n] := List.getElem?_eq_getElem hn
  exact h_ixT h l (atI_nat e) (k _ (List.getElem_mem hn))

section
variable {P : Program} {w : World} {K : PySem.W.Frag} {mg : Str → Option Value} {base : Heap} {CPlainBook CCodeBook CStock COddsError CBadShare CBadText CBadBook CBadMove CBadProgram CBadPlan CUnfit CTooLarge CBadEdit CCODE_FORMS CIDLE : Addr}
theorem ok_l_state (T : Txt P w K mg CPlainBook CCodeBook CStock COddsError CBadShare CBadText CBadBook CBadMove CBadProgram CBadPlan CUnfit CTooLarge CBadEdit CCODE_FORMS CIDLE) : Fc P w K mg base CX0 2 "_law_state" ["pool", "stock", "things", "most"] (spLState K) := by
  refine fc_of T.d_l_state sc_l_state (fun vs H Q E h => by obtain ⟨a, sv, tv, most, po, m, mu, zs, t, f, cs, ts, Z, rfl, pool, az, zl, ⟨p0, cv, xv, rfl, h0, ⟨p1, v1, v2, v3, v4, o1, rfl, h1, d1⟩, ⟨p2, cc, o2, gl, rfl, h2, d2, fz, gr⟩⟩, dt, ⟨gcode, gports, gbook, gsml, gfirst, gsome, gfew⟩, ⟨mo0, mo8⟩, k⟩ := h; rfl) (fun _ _ _ _ _ _ us hl => match us, hl with | [_, _, _, _], _ => rfl) fun f cdv A outer s H vs Q E hr h => ⟨_, (pss_cons (ps_asg (pv 1) (pgTK K 2 (by rfl) (pgs_cons (pg_name (i := 4) sc_l_state.nd rfl (Or.inl rfl)) (pgs_cons (pg_name (i := 5) sc_l_state.nd rfl (Or.inl rfl)) pgs_nil))))
 (pss_cons (ps_set (i := 6) sc_l_state.nd rfl (Or.inl rfl) (pe_fc (ok_l_draw T) pass0 (hr.mono (by omega)) (pa_cons (pv 0) (pa_cons (pe_ix (ixtK K) (pv 5) pe_int (fun _ _ => rfl)) pa_nil))))
 (C8.pss_cut (ps_if (PW.pt (pw_and (pt_cmpR op_gt (pe_callB (lenK K) (by rfl) T.n_len b_len (pa_cons (pe_ix (ixtK K) (pv 5) pe_int (fun _ _ => rfl)) pa_nil)) pe_int (nomark _)) (pw_and1 (pt_cmpR op_lt (pe_fc (ok_l_draw T) pass0 (hr.mono (by omega)) (pa_cons (pv 0) (pa_cons pe_int pa_nil))) pe_int (nomark _)))))
 (pss_one (ps_set (i := 6) sc_l_state.nd rfl (Or.inl rfl) (pe_ix (ixtK K) (pe_ix (ixtK K) (pe_ix (ixtK K) (pv 5) pe_int (fun _ _ => rfl)) (pe_fc (ok_l_draw T) pass0 (hr.mono (by omega)) (pa_cons (pv 0) (pa_cons (pe_callB (lenK K) (by rfl) T.n_len b_len (pa_cons (pe_ix (ixtK K) (pv 5) pe_int (fun _ _ => rfl)) pa_nil)) pa_nil))) (fun _ _ => rfl)) pe_int (fun _ _ => rfl))))
 pss_nil)
 (pss_cons (ps_set (i := 7) sc_l_state.nd rfl (Or.inl rfl) (pe_lst pa_nil))
 (pss_cons (ps_for PassesOwn.never rfl (pi_range1 (by rfl) T.n_range (pa_cons (pe_callB (lenK K) (by rfl) T.n_len b_len (pa_cons (pe_ix (ixtK K) (pv 4) pe_int (fun _ _ => rfl)) pa_nil)) pa_nil)) (pg_name (i := 8) sc_l_state.nd rfl (Or.inl rfl))
 (pss_cons (ps_set (i := 9) sc_l_state.nd rfl (Or.inl rfl) (pe_fc (ok_l_draw T) pass0 (hr.mono (by omega)) (pa_cons (pv 0) (pa_cons pe_int pa_nil))))
 (pss_cons (ps_set (i := 10) sc_l_state.nd rfl (Or.inl rfl) (pe_ix (ixlK K) (pv 2) (pe_fc (ok_l_draw T) pass0 (hr.mono (by omega)) (pa_cons (pv 0) (pa_cons (pe_callB (lenK K) (by rfl) T.n_len b_len (pa_cons (pv 2) pa_nil)) pa_nil))) (fun _ _ => rfl)))
 (pss_one (ps_if (PW.pt (pw_and (pt_cmpR op_lt (pv 9) pe_int (nomark _)) (pw_and1 (pt_cmpR op_gt (pv 3) pe_int (nomark _)))))
 (pss_cons (ps_set (i := 3) sc_l_state.nd rfl (Or.inl rfl) (pe_op op_sub (pv 3) pe_int))
 (pss_one (ps_expr (pe_bm PySem.F.plainAttrs_list PySem.F.slot_list_append PySem.F.type_list_append mt_append (pv 7) (pa_cons (pe_tup (pa_cons pe_int (pa_cons (pe_ix (ixtK K) (pv 10) pe_int (fun _ _ => rfl)) (pa_cons (pe_ix (ixlK K) (pe_lst (pa_cons (pe_ix (ixtK K) (pv 10) pe_int (fun _ _ => rfl)) (pa_cons (pe_fc (ok_l_draw T) pass0 (hr.mono (by omega)) (pa_cons (pv 0) (pa_cons pe_int pa_nil))) pa_nil))) (pe_callTy c_int1 (by rfl) T.n_int b_int (pa_cons (pe_cmpR op_eq (pe_fc (ok_l_draw T) pass0 (hr.mono (by omega)) (pa_cons (pv 0) (pa_cons pe_int pa_nil))) pe_int (nomark _)) pa_nil)) (fun _ _ => rfl)) pa_nil)))) pa_nil)))))
 (pss_one (ps_if (pt_cmpR op_eq (pv 9) pe_int (nomark _))
 (pss_one (ps_expr (pe_bm PySem.F.plainAttrs_list PySem.F.slot_list_append PySem.F.type_list_append mt_append (pv 7) (pa_cons (pe_tup (pa_cons pe_int (pa_cons (pe_fc (ok_l_draw T) pass0 (hr.mono (by omega)) (pa_cons (pv 0) (pa_cons (pe_ix (ixlK K) (pe_lst (pa_cons pe_int (pa_cons pe_int pa_nil))) (pe_fc (ok_l_draw T) pass0 (hr.mono (by omega)) (pa_cons (pv 0) (pa_cons pe_int pa_nil))) (fun _ _ => rfl)) pa_nil))) pa_nil))) pa_nil))))
 (pss_one (ps_expr (pe_bm PySem.F.plainAttrs_list PySem.F.slot_list_append PySem.F.type_list_append mt_append (pv 7) (pa_cons (pe_tup pa_nil) pa_nil)))))))))))
 (pss_one (ps_ret (pe_tup (pa_cons (pv 6) (pa_cons (pe_callTy (tupK K) (by rfl) T.n_tuple b_tuple (pa_cons (pv 7) pa_nil)) pa_nil)))))))))), ?_⟩
  obtain ⟨a, sv, tv, most, po, m, mu, zs, t, f, cs, ts, Z, rfl, pool, az, zl, ⟨p0, cv, xv, rfl, h0, ⟨p1, v1, v2, v3, v4, o1, rfl, h1, d1⟩, ⟨p2, cc, o2, gl, rfl, h2, d2, fz, gr⟩⟩, dt, ⟨gcode, gports, gbook, gsml, gfirst, gsome, gfew⟩, ⟨mo0, mo8⟩, k⟩ := h
  have hs : Hs K ⟨H, [a], Z⟩ Z H [.pool a] [([tv], [.list (ts.map eTh)])] := (in_w pool az zl (.cons dt .nil))
  have hs := hs.fa (Φ := TupF p2 [.int t, .int f, cc, .ref o2]) tf_stay h2
  have hs := hs.fa (Φ := TupF p1 [.int m, .int 1, v1, v2, v3, v4, o1]) tf_stay h1
  have hs := hs.fa (Φ := TupF p0 [.ref p1, .ref p2]) tf_stay h0
  have d3 : Dt K Z H v3 (eMn mu) := by
    cases d1 with | cons _ d1 => cases d1 with | cons _ d1 => cases d1 with | cons d1 _ => exact d1
  have hs := (hs.fact1 d2).fact1 d3
  have lt : (ts.map eTh).length = ts.length := List.length_map _
  have lc : (cs.map eCh).length = cs.length := List.length_map _
  have lm : (mu.map fun t => PyData.tuple (t.map eTh)).length = mu.length := List.length_map _
  have m8 := gcode.2.2.1
  have t600 : 1 ≤ t ∧ t ≤ 600 := by have := (isBook_iff.mp gbook).1; omega
  have lcs := gsml.1
  tm_at "go"
  refine u_cut (fun σ H' => ∃ n : Int, σ = [some (.ref a), some (.ref p0), some tv, some (.int most), some (.ref p1), some (.ref p2), some (.int n), none, none, none, none] ∧ Hs K ⟨H, [a], Z⟩ Z H' [.fa (TupF p1 [.int m, .int 1, v1, v2, v3, v4, o1]) tf_stay, .pool a] [([v3], [eMn mu]), ([tv], [.list (ts.map eTh)])]) ?_ ?_
  · tm_at "run"
    · rename_i r H2 r0 r1 hs2
      refine h_ixTm hs2 (show Dt K Z H2 cc (.tuple (cs.map eCh)) from by tm_at "dt") (by omega) (by omega) fun d hd x dx hs3 => ?_
      obtain ⟨c, hc, rfl⟩ := List.mem_map.mp hd
      clear hs2
      tm_at "run"
      exact ⟨_, rfl, by tm_at "wk"⟩
    · exact ⟨_, rfl, by tm_at "wk"⟩
    · exact ⟨_, rfl, by tm_at "wk"⟩
  rintro σ H1 ⟨n, rfl, hs1⟩
  clear hs
  tm_at "run"
  rename_i q H2 hs2
  have hs2 : Hs K ⟨H, [a], Z⟩ Z H2 [.dl K q [] true, .pool a] [([v3], [eMn mu]), ([tv], [.list (ts.map eTh)])] := by tm_at "wk"
  clear hs1
  refine l_range (fun i σ H' => ∃ (most : Int) (ms : List Mrk) (u8 u9 u10 : Option V), σ = [some (.ref a), some (.ref p0), some tv, some (.int most), some (.ref p1), some (.ref p2), some (.int n), some (.ref q), u8, u9, u10] ∧ ms.length = i ∧ (0 ≤ most ∧ most ≤ 8) ∧ Hs K ⟨H, [a], Z⟩ Z H' [.dl K q (ms.map eM) true, .pool a] [([v3], [eMn mu]), ([tv], [.list (ts.map eTh)])]) ?_ ?_ ?_
  · exact ⟨most, [], _, _, _, rfl, rfl, ⟨mo0, mo8⟩, hs2⟩
  · rintro i σ H3 hi ⟨most, ms, u8, u9, u10, rfl, lms, ⟨mo0, mo8⟩, hs3⟩
    have lmm : (ms.map eM).length = ms.length := List.length_map _
    clear hs2
    tm_at "run"
    rename_i r1 H4 r10 r11 _ r2 H5 r20 r21 hs5
    refine h_ixLf hs5 (l := ts) (by tm_at "lr") (by omega) (by omega) fun y hy x dx hs6 => ?_
    clear hs5 hs3
    have snoc : ∀ mk : Mrk, (ms.map eM) ++ [eM mk] = (ms ++ [mk]).map eM := fun mk => by rw [List.map_append]; rfl
    have ll : ∀ mk : Mrk, (ms ++ [mk]).length = i + 1 := fun mk => by rw [List.length_append, lms]; rfl
    have in28 : ∀ d ∈ [PyData.int 2, PyData.int 8], ∃ z : Int, d = .int z ∧ 2 ≤ z ∧ z ≤ 8 := fun d hd => by
      simp only [List.mem_cons, List.not_mem_nil, or_false] at hd
      rcases hd with rfl | rfl <;> exact ⟨_, rfl, by decide, by decide⟩
    tm_at "run"
    · rename_i p5 _ _ r5 H7 r50 r51 hs7
      refine h_ixLia hs7 (by tm_at "lr") (by split <;> omega) (by show _ < (2 : Int); split <;> omega) rfl fun z => ?_
      tm_at "run"
      exact ⟨most - 1, ms ++ [.ask y.1 z], _, _, _, rfl, ll _, ⟨by omega, by omega⟩, by rw [← snoc]; tm_at "wk"⟩
    · rename_i p5 _ _ r5 H7 r50 r51 hs7
      refine h_ixLn (lo := 2) (hi := 8) hs7 (by tm_at "lr") (by omega) (by show _ < (2 : Int); omega) in28 fun z z0 z8 => ?_
      tm_at "run"
      rename_i r6 _ _ _ _ _ _ _ _ _
      exact ⟨most, ms ++ [.done r6], _, _, _, rfl, ll _, ⟨mo0, mo8⟩, by rw [← snoc]; tm_at "wk"⟩
    · exact ⟨most, ms ++ [.idle], _, _, _, rfl, ll _, ⟨mo0, mo8⟩, by rw [← snoc]; tm_at "wk"⟩
    · rename_i p5 _ _ r5 H7 r50 r51 hs7
      refine h_ixLn (lo := 2) (hi := 8) hs7 (by tm_at "lr") (by omega) (by show _ < (2 : Int); omega) in28 fun z z0 z8 => ?_
      tm_at "run"
      rename_i r6 _ _ _ _ _ _ _ _ _
      exact ⟨most, ms ++ [.done r6], _, _, _, rfl, ll _, ⟨mo0, mo8⟩, by rw [← snoc]; tm_at "wk"⟩
    · exact ⟨most, ms ++ [.idle], _, _, _, rfl, ll _, ⟨mo0, mo8⟩, by rw [← snoc]; tm_at "wk"⟩
  · rintro σ H3 ⟨most, ms, u8, u9, u10, rfl, lms, ⟨mo0, mo8⟩, hs3⟩
    tm_at "run"
    rename_i p5 H6 hs6
    exact k _ _ n ms hs6.kp (hs6.pool (.there .here)) (by omega) (dt_noZ _ _ (by simpa [noL, noLs] using noLs_map eM (fun m => by cases m <;> rfl) ms) (show Dt K Z H6 (.ref p5) (eS n ms) from by tm_at "dt"))


end



/-! my own steps: rows of tactics, tried from above -/

/-! steps over Hs -/














/-! one take asked -/
def spLTake (K : PySem.W.Frag) (CS CP : Addr) : Sp := fun vs H Q _ => ∃ (p : Addr) (c : V) (pp o : Addr) (s f : Int) (cs : List Ch) (Z : List Addr) (v pr : V) (n : Int) (ms : List Mrk) (i j : Int), vs = [.ref p, v, pr] ∧ SkAt K CS CP H p c pp o s f cs ∧ (∀ z ∈ Z, ∃ o, H z = some o) ∧ Dt K Z H v (eS n ms) ∧ Dt K Z H pr (.tuple [.int i, .int j]) ∧ Sml 200 cs ∧ ms.length ≤ 8 ∧
  (∀ l ∈ leads cs n ms ms.length, ((l.1.1 : Nat) : Int) = i → ((l.1.2 : Nat) : Int) = j → ∀ x H', Kp [] H H' → Rv K Z H H' x (.tuple [eS l.2.1 l.2.2, .none, .list []]) → Q x H') ∧
  ((∀ l ∈ leads cs n ms ms.length, ¬ (((l.1.1 : Nat) : Int) = i ∧ ((l.1.2 : Nat) : Int) = j)) → ∀ x H', Kp [] H H' → Rv K Z H H' x (.tuple [.none, .int 0, .list [.bool true, .bool true, .bool false]]) → Q x H')

section
variable {P : Program} {w : World} {K : PySem.W.Frag} {mg : Str → Option Value} {base : Heap} {CPlainBook CCodeBook CStock COddsError CBadShare CBadText CBadBook CBadMove CBadProgram CBadPlan CUnfit CTooLarge CBadEdit CCODE_FORMS CIDLE : Addr}
theorem ok_l_take (T : Txt P w K mg CPlainBook CCodeBook CStock COddsError CBadShare CBadText CBadBook CBadMove CBadProgram CBadPlan CUnfit CTooLarge CBadEdit CCODE_FORMS CIDLE) : Fc P w K mg base CX0 5 "_law_take" ["real", "s", "pair"] (spLTake K CStock CPlainBook) := by
  refine fc_of T.d_l_take sc_l_take (fun vs H Q E h => by obtain ⟨p, c, pp, o, s, f, cs, Z, v, pr, n, ms, i, j, rfl, sk, zl, dv, dp, pre, m8, yes, no⟩ := h; rfl) (fun _ _ _ _ _ _ us hl => match us, hl with | [_, _, _], _ => rfl) fun f cdv A outer s H vs Q E hr h => ⟨_, (pss_cons (ps_set (i := 3) sc_l_take.nd rfl (Or.inl rfl) pe_non)
 (pss_cons (ps_set (i := 4) sc_l_take.nd rfl (Or.inl rfl) pe_non)
 (pss_cons (ps_set (i := 5) sc_l_take.nd rfl (Or.inl rfl) (pe_lst pa_nil))
 (pss_cons (ps_try_as (i := 6) (Wout := fun _ _ _ _ => False) rfl rfl sc_l_take.nd rfl rfl ⟨rfl, by decide, Or.inl T.e_BadMove.g⟩ takes0 (fun W pn xe tk _ =>
 (pss_one (ps_set (i := 3) sc_l_take.nd rfl (Or.inl rfl) (pe_fcS (ok_taken T) (fun σ => passAt tk σ) (hr.mono (by omega)) (pa_cons (pv 0) (pa_cons (pv 1) (pa_cons (pe_ix (ixtK K) (pv 2) pe_int (fun _ _ => rfl)) (pa_cons (pe_ix (ixtK K) (pv 2) pe_int (fun _ _ => rfl)) pa_nil))))))))
 (fun a oe cls d pn hz hf =>
 (pss_cons (ps_set (i := 4) sc_l_take.nd rfl (Or.inl rfl) (pe_xf (C := CBadMove) T.xf_BadMove T.xfn_BadMove hz hf (pv 6)))
 (pss_cons (ps_set (i := 7) sc_l_take.nd rfl (Or.inl rfl) (pe_callB (c_isXT hz hf) (by rfl) T.n_isinstance b_isinstance (pa_cons (pv 6) (pa_cons (pe_tup (pa_cons (pe_glob (v := .ref CBadBook) rfl T.e_BadBook.g rfl) (pa_cons (pe_glob (v := .ref CBadEdit) rfl T.e_BadEdit.g rfl) (pa_cons (pe_glob (v := .ref CBadPlan) rfl T.e_BadPlan.g rfl) (pa_cons (pe_glob (v := .ref CBadProgram) rfl T.e_BadProgram.g rfl) (pa_cons (pe_glob (v := .ref CBadShare) rfl T.e_BadShare.g rfl) (pa_cons (pe_glob (v := .ref CBadText) rfl T.e_BadText.g rfl) (pa_cons (pe_glob (v := .ref CTooLarge) rfl T.e_TooLarge.g rfl) (pa_cons (pe_glob (v := .ref CUnfit) rfl T.e_Unfit.g rfl) pa_nil))))))))) pa_nil))))
 (pss_one (ps_set (i := 5) sc_l_take.nd rfl (Or.inl rfl) (pe_lst (pa_cons (pe_callB (c_isX hz hf) (by rfl) T.n_isinstance b_isinstance (pa_cons (pv 6) (pa_cons (pe_glob (v := .ref COddsError) rfl T.e_OddsError.g rfl) pa_nil))) (pa_cons (pe_callB (c_isX hz hf) (by rfl) T.n_isinstance b_isinstance (pa_cons (pv 6) (pa_cons (pe_bltn (v := .ty "ValueError") (by rfl) T.n_ValueError b_ValueError rfl) pa_nil))) (pa_cons (pv 7) pa_nil))))))))))
 (pss_one (ps_ret (pe_tup (pa_cons (pv 3) (pa_cons (pv 4) (pa_cons (pv 5) pa_nil)))))))))), ?_⟩
  obtain ⟨p, c, pp, o, s, f, cs, Z, v, pr, n, ms, i, j, rfl, sk, zl, dv, dp, pre, m8, yes, no⟩ := h
  have hs : Hs K ⟨H, [], Z⟩ Z H [] [([pr], [.tuple [.int i, .int j]]), ([v], [eS n ms])] := ((Hs.start (fun _ z => by cases z) zl).fact1 dv).fact1 dp
  have nos : ∀ C ∈ [CBadBook, CBadEdit, CBadPlan, CBadProgram, CBadShare, CBadText, CTooLarge, CUnfit], PySem.W.kitOne K (.ref CBadMove) (.ref C) = some false := by
    intro C hC
    simp only [List.mem_cons, List.not_mem_nil, or_false] at hC
    rcases hC with rfl | rfl | rfl | rfl | rfl | rfl | rfl | rfl
    · exact T.e_BadBook.no T.nm_BadBook
    · exact T.e_BadEdit.no T.nm_BadEdit
    · exact T.e_BadPlan.no T.nm_BadPlan
    · exact T.e_BadProgram.no T.nm_BadProgram
    · exact T.e_BadShare.no T.nm_BadShare
    · exact T.e_BadText.no T.nm_BadText
    · exact T.e_TooLarge.no T.nm_TooLarge
    · exact T.e_Unfit.no T.nm_Unfit
  tm_at "go"
  rename_i kq H1 hs1
  clear hs
  refine ⟨p, c, pp, o, s, f, cs, Z, v, n, ms, i, j, rfl, sk.kp0 hs1.kp, hs1.zl, by tm_at "dt", pre, m8, fun l hl e1 e2 x H2 k2 rv => ?_, fun all d H2 k2 hd => ?_⟩
  · obtain ⟨Zr, ok, al, q⟩ := rv
    have hs2 := ((hs1.same k2).addZ hs1 ok al).fact1 (q.zs (List.subset_append_left _ _))
    clear hs1
    tm_at "run"
    rename_i pt H3 hs3
    have hs4 := hs3.freeze (.there .here)
    exact fin_v hs4 (show Dt K _ H3 (.ref pt) (.tuple [eS l.2.1 l.2.2, .none, .list []]) from by tm_at "dt") (yes l hl e1 e2)
  · have hs2 := hs1.same k2
    clear hs1
    refine ⟨true, T.e_BadMove.exm T.selfM, fun _ a na => ?_, fun z => by cases z⟩
    tm_at "run"
    refine u_xf ?_
    tm_at "run"
    refine xf_of hd lk_hit ?_
    have keep : True → Hs K ⟨H, [], Z⟩ Z H2 [.dl K kq [] true] [([pr], [.tuple [.int i, .int j]]), ([v], [eS n ms])] := fun _ => hs2
    clear hs2
    tm_at "run"
    rename_i tp H3 nt k3 ot
    refine isXT_none [CBadBook, CBadEdit, CBadPlan, CBadProgram, CBadShare, CBadText, CTooLarge, CUnfit] T.e_BadMove.e (k3.get0 hd) ot nos ?_
    have hs3 := (keep trivial).same k3
    clear keep
    tm_at "run"
    refine isX_own T.e_BadMove.e (k3.get0 hd) (T.e_OddsError.yes T.upM) ?_
    tm_at "run"
    refine isX_VE T.e_BadMove.e (k3.get0 hd) T.upVM ?_
    tm_at "run"
    rename_i kl _ _ pt H4 hs4
    have hs5 := hs4.freeze (.there .here)
    exact fin_v hs5 (show Dt K _ H4 (.ref pt) (.tuple [.none, .int 0, .list [.bool true, .bool true, .bool false]]) from by tm_at "dt") (no all)


end



/-! my own steps: rows of tactics, tried from above -/

/-! steps over Hs -/















/-! one state asked -/
theorem sp_l_same {n : Nat} {d : PyData} {φ : PyData → Prop} (p : d.depth < n ∧ wid d ≤ 100000) (k : φ (.bool true)) : S_same n [d, d] φ := ⟨d, rfl, p, k⟩
theorem k_sameT {K : PySem.W.Frag} {B : Bs} {H : Hp} {Z : List Addr} {L L' : List Ent} {M : List (List V × List PyData)} {q : Addr} {v : V} {ds : List PyData} {R : VK} {E : XK} (hs : Hs K B Z H L M) (r : Rem L (.dl K q ds true) L') (dv : Dt K Z H v (.list ds)) (d5 : (PyData.list ds).depth < 5) (w : wid (.list ds) ≤ 100000) (k : ∀ H5, Kp [] H H5 → R (.bl true) H5) :
    spV K (S_same 5) ([.ref q, v] ++ []) H R E := by
  have hF := hs.freeze r
  exact ⟨q :: Z, [.list ds, .list ds], hF.zl, .cons (hF.dt (.head _)) (.cons (dv.zs (List.subset_cons_self _ _)) .nil), sp_l_same ⟨d5, w⟩ fun v H5 k5 rv => by
    obtain ⟨Z5, _, _, q5⟩ := rv
    rw [q5.bl_inv]
    exact k _ k5⟩
/-- two values of the same data -/
theorem k_same2 {K : PySem.W.Frag} {B : Bs} {H : Hp} {Z : List Addr} {L : List Ent} {M : List (List V × List PyData)} {u v : V} {d : PyData} {R : VK} {E : XK} (hs : Hs K B Z H L M) (du : Dt K Z H u d) (dv : Dt K Z H v d) (d5 : d.depth < 5) (w : wid d ≤ 100000) (k : ∀ H5, Kp [] H H5 → R (.bl true) H5) :
    spV K (S_same 5) ([u, v] ++ []) H R E :=
  ⟨Z, [d, d], hs.zl, .cons du (.cons dv .nil), sp_l_same ⟨d5, w⟩ fun v H5 k5 rv => by
    obtain ⟨Z5, _, _, q5⟩ := rv
    rw [q5.bl_inv]
    exact k _ k5⟩
theorem eM_wid (m : Mrk) : wid (eM m) ≤ 3 := by cases m <;> exact Nat.le_of_ble_eq_true rfl
theorem eS_dep (n : Int) (ms : List Mrk) : (eS n ms).depth < 5 := by
  have h := dep_map eM 2 eM_depth ms
  show max _ (max (PyData.depthAll (ms.map eM) + 1) _) + 1 < 5
  have e0 : (PyData.int n).depth = 0 := rfl
  have e1 : PyData.depthAll ([] : List PyData) = 0 := rfl
  rw [e0, e1]
  omega
theorem eS_wid (n : Int) (ms : List Mrk) (h : ms.length ≤ 1000) : wid (eS n ms) ≤ 100000 := by
  have h1 := wid_map eM 3 eM_wid ms
  show max 2 (max 0 (max (max (ms.map eM).length (wids (ms.map eM))) 0)) ≤ _
  rw [List.length_map]
  omega
theorem tk_dep (ls : List Ld) : (PyData.list (ls.map eTk)).depth < 5 := by
  have h := dep_map eTk 1 (fun l => Nat.le_refl _) ls
  show PyData.depthAll _ + 1 < 5
  omega
theorem tk_wid (ls : List Ld) (h : ls.length ≤ 2000) : wid (PyData.list (ls.map eTk)) ≤ 100000 := by
  have h1 := wid_map eTk 2 (fun l => Nat.le_refl _) ls
  show max _ _ ≤ _
  rw [List.length_map]
  omega
/-- what stands among the leads -/
theorem leads_mem {cs : List Ch} {n : Int} {ms : List Mrk} {k : Nat} {l : Ld} (h : l ∈ leads cs n ms k) : ∃ (d : Str) (a b r : Int), l.1.1 < k ∧ ms[l.1.1]? = some (.ask d a) ∧ (optsK cs [.inr d, .inl n, .inl a])[l.1.2]? = some (b, r) ∧ l.2 = (b, ms.set l.1.1 (.done r)) := by
  unfold leads at h
  obtain ⟨p, hp, hl⟩ := List.mem_flatMap.mp h
  unfold leadA leadP at hl
  obtain ⟨⟨⟨b, r⟩, c⟩, hx, rfl⟩ := List.mem_map.mp hl
  have hp := List.mem_range.mp hp
  have hc := List.mem_zipIdx' hx
  obtain ⟨hc1, hc2⟩ := hc
  have hq : (optA cs n (ms.getD p .idle))[c]? = some (b, r) := by rw [List.getElem?_eq_getElem hc1, ← hc2]
  clear hc1 hc2 hx
  cases e : ms.getD p .idle with
  | ask d a =>
    rw [e] at hq
    have hm : ms[p]? = some (.ask d a) := by
      rw [List.getD_eq_getElem?_getD] at e
      cases e2 : ms[p]? with
      | none => rw [e2] at e; cases e
      | some m => rw [e2] at e; rw [← e]; rfl
    exact ⟨d, a, b, r, hp, hm, hq, rfl⟩
  | idle => rw [e] at hq; cases hq
  | done v => rw [e] at hq; cases hq
theorem tk_any (ls : List Ld) (i j : Int) : ((ls.map eTk).any fun y => PyData.eqv y (.tuple [.int i, .int j])) = true ↔ ∃ l ∈ ls, ((l.1.1 : Nat) : Int) = i ∧ ((l.1.2 : Nat) : Int) = j := by
  rw [any_iff (noBs_map eTk (fun _ => rfl) ls) rfl]
  constructor
  · intro h
    obtain ⟨l, hl, e⟩ := List.mem_map.mp h
    simp only [eTk, PyData.tuple.injEq, List.cons.injEq, PyData.int.injEq, and_true] at e
    exact ⟨l, hl, e⟩
  · rintro ⟨l, hl, e1, e2⟩
    exact List.mem_map.mpr ⟨l, hl, by rw [← e1, ← e2]⟩
abbrev ePi (x : Int × Int) : PyData := .tuple [.int x.1, .int x.2]
def spLSH (K : PySem.W.Frag) (CS CP : Addr) : Sp := fun vs H Q _ => ∃ (p : Addr) (c : V) (pp o : Addr) (t f : Int) (cs : List Ch) (Z : List Addr) (x v ps : V) (n : Int) (ms : List Mrk) (pairs : List (Int × Int)), vs = [.ref p, x, v, ps] ∧ SkAt K CS CP H p c pp o t f cs ∧ (∀ z ∈ Z, ∃ o, H z = some o) ∧ PlAt K x t f cs Z H ∧ Dt K Z H v (eS n ms) ∧ Dt K Z H ps (.list (pairs.map ePi)) ∧ Sml 200 cs ∧ ms.length ≤ 8 ∧
  ∀ H', Kp [] H H' → Q (.bl true) H'
section
variable {K : PySem.W.Frag} {CS CP p pp o : Addr} {t f n : Int} {cs : List Ch} {c x v : V} {ms : List Mrk} {Bb : Bs} {Z : List Addr} {H : Hp} {L : List Ent} {M : List (List V × List PyData)} {Q : VK} {E : XK}
theorem k_ltakes (h : Hs K Bb Z H L M) (pl : PlAt K x t f cs Z H) (dv : Dt K Z H v (eS n ms)) (pre : Sml 200 cs) (m8 : ms.length ≤ 8) (k : RetL K Bb Z H L M Q ((leads cs n ms ms.length).map eTk)) : spLTakes K ([x, v] ++ []) H Q E :=
  ⟨Z, t, f, cs, x, v, n, ms, rfl, h.zl, pl, dv, pre, m8, fun q H' kp rl => k q H' (h.same kp) rl h⟩
theorem k_takes (h : Hs K Bb Z H L M) (sk : SkAt K CS CP H p c pp o t f cs) (dv : Dt K Z H v (eS n ms)) (pre : Sml 200 cs) (m8 : ms.length ≤ 8) (k : RetL K Bb Z H L M Q ((leads cs n ms ms.length).map eTk)) : spTakes K CS CP ([.ref p, v] ++ []) H Q E :=
  ⟨p, c, pp, o, t, f, cs, Z, v, n, ms, rfl, sk, h.zl, dv, pre, m8, fun q H' kp rl => k q H' (h.same kp) rl h⟩
end

section
variable {P : Program} {w : World} {K : PySem.W.Frag} {mg : Str → Option Value} {base : Heap} {CPlainBook CCodeBook CStock COddsError CBadShare CBadText CBadBook CBadMove CBadProgram CBadPlan CUnfit CTooLarge CBadEdit CCODE_FORMS CIDLE : Addr}
theorem ok_l_state_holds (T : Txt P w K mg CPlainBook CCodeBook CStock COddsError CBadShare CBadText CBadBook CBadMove CBadProgram CBadPlan CUnfit CTooLarge CBadEdit CCODE_FORMS CIDLE) : Fc P w K mg base CX0 8 "_law_state_holds" ["real", "plain", "s", "pairs"] (spLSH K CStock CPlainBook) := by
  refine fc_of T.d_l_state_holds sc_l_state_holds (fun vs H Q E h => by obtain ⟨p, c, pp, o, t, f, cs, Z, x, v, ps, n, ms, pairs, rfl, sk, zl, pl, dv, dp, pre, m8, k⟩ := h; rfl) (fun _ _ _ _ _ _ us hl => match us, hl with | [_, _, _, _], _ => rfl) fun f cdv A outer s H vs Q E hr h => ⟨_, (pss_cons (ps_set (i := 4) sc_l_state_holds.nd rfl (Or.inl rfl) (pe_fc (ok_l_takes T) pass0 (hr.mono (by omega)) (pa_cons (pv 1) (pa_cons (pv 2) pa_nil))))
 (pss_cons (ps_set (i := 5) sc_l_state_holds.nd rfl (Or.inl rfl) (pe_fc (ok_takes_of T) pass0 (hr.mono (by omega)) (pa_cons (pv 0) (pa_cons (pv 2) pa_nil))))
 (pss_cons (ps_if (pt_not (pt_val (pe_fc (ok_l_same T 5) pass0 (hr.mono (by omega)) (pa_cons (pv 5) (pa_cons (pv 4) pa_nil)))))
 (pss_one (ps_ret pe_bl))
 pss_nil)
 (pss_cons (ps_expr (pe_bm PySem.F.plainAttrs_list PySem.F.slot_list_append PySem.F.type_list_append mt_append (pv 5) (pa_cons (pe_tup (pa_cons pe_int (pa_cons pe_int pa_nil))) pa_nil)))
 (pss_cons (ps_if (pt_not (pt_val (pe_fc (ok_l_same T 5) pass0 (hr.mono (by omega)) (pa_cons (pe_fc (ok_takes_of T) pass0 (hr.mono (by omega)) (pa_cons (pv 0) (pa_cons (pv 2) pa_nil))) (pa_cons (pv 4) pa_nil)))))
 (pss_one (ps_ret pe_bl))
 pss_nil)
 (pss_cons (ps_for PassesOwn.never rfl (piLK K (pv 3)) (pg_name (i := 6) sc_l_state_holds.nd rfl (Or.inl rfl))
 (pss_cons (ps_asg (pe_fc (ok_l_take T) pass0 (hr.mono (by omega)) (pa_cons (pv 0) (pa_cons (pv 2) (pa_cons (pv 6) pa_nil)))) (pgTK K 3 (by rfl) (pgs_cons (pg_name (i := 7) sc_l_state_holds.nd rfl (Or.inl rfl)) (pgs_cons (pg_name (i := 8) sc_l_state_holds.nd rfl (Or.inl rfl)) (pgs_cons (pg_name (i := 9) sc_l_state_holds.nd rfl (Or.inl rfl)) pgs_nil)))))
 (pss_one (ps_if (pt_cmpR (inAK K hr.units) (pv 6) (pv 4) rfl)
 (pss_one (ps_if (PW.pt (pw_or (pt_cmpR (neAK K hr.units) (pv 9) (pe_lst pa_nil) (nomark _)) (pw_or1 (pt_not (pt_val (pe_fc (ok_l_same T 5) pass0 (hr.mono (by omega)) (pa_cons (pv 7) (pa_cons (pe_fc (ok_l_taken T) pass0 (hr.mono (by omega)) (pa_cons (pv 1) (pa_cons (pv 2) (pa_cons (pe_ix (ixtK K) (pv 6) pe_int (fun _ _ => rfl)) (pa_cons (pe_ix (ixtK K) (pv 6) pe_int (fun _ _ => rfl)) pa_nil))))) pa_nil))))))))
 (pss_one (ps_ret pe_bl))
 pss_nil))
 (pss_one (ps_if (PW.pt (pw_or (pt_cmpR (neAK K hr.units) (pv 9) (pe_lst (pa_cons pe_bl (pa_cons pe_bl (pa_cons pe_bl pa_nil)))) (nomark _)) (pw_or (pt_not (pt_val (pe_fc (ok_l_int T) pass0 (hr.mono (by omega)) (pa_cons (pv 8) pa_nil)))) (pw_or1 (pt_cmpR op_ne (pv 8) pe_int (nomark _))))))
 (pss_one (ps_ret pe_bl))
 pss_nil))))))
 (pss_one (ps_ret pe_bl)))))))), ?_⟩
  obtain ⟨p, c, pp, o, t, f, cs, Z, x, v, ps, n, ms, pairs, rfl, sk, zl, pl, dv, dp, pre, m8, k⟩ := h
  have hs : Hs K ⟨H, [], Z⟩ Z H [.fa (PlAt K x t f cs) pl_stay] [([ps], [.list (pairs.map ePi)]), ([v], [eS n ms])] := (((Hs.start (fun _ z => by cases z) zl).fa pl_stay pl).fact1 dv).fact1 dp
  have lL := leads_len cs n ms ms.length pre.1
  have td := tk_dep (leads cs n ms ms.length)
  have tw := tk_wid (leads cs n ms ms.length) (by omega)
  tm_at "go"
  refine k_ltakes hs (hs.get .here) (by tm_at "dt") pre m8 (retL fun D Z1 H1 zz hs1 => ?_)
  have hs1 := hs1.freeze .here
  clear hs
  tm_at "run"
  refine k_takes hs1 (sk.kp0 hs1.kp) (by tm_at "dt") pre m8 (retL fun q Z2 H2 zz hs2 => ?_)
  clear hs1
  tm_at "run"
  refine k_sameT hs2 .here (by tm_at "dt") td tw fun H3 k3 => ?_
  have hs3 := hs2.same k3
  have lt : ((leads cs n ms ms.length).map eTk).length = (leads cs n ms ms.length).length := List.length_map _
  clear hs2
  tm_at "run"
  rename_i _ _ _ H4 hs4
  clear hs3
  refine k_takes hs4 (sk.kp0 hs4.kp) (by tm_at "dt") pre m8 (retL fun q2 Z3 H5 zz hs5 => ?_)
  clear hs4
  tm_at "run"
  refine k_sameT hs5 .here (by tm_at "dt") td tw fun H6 k6 => ?_
  have hs6 := hs5.same k6
  have hs6 : Hs K ⟨H, [], Z⟩ Z3 H6 [.fa (PlAt K x t f cs) pl_stay] [([.ref D], [.list ((leads cs n ms ms.length).map eTk)]), ([ps], [.list (pairs.map ePi)]), ([v], [eS n ms])] := by tm_at "wk"
  clear hs5
  tm_at "run"
  refine l_dl (pairs.map ePi) (fun i σ H' => ∃ (Z4 : List Addr) (u6 u7 u8 u9 : Option V), σ = [some (.ref p), some x, some v, some ps, some (.ref D), some (.ref q), u6, u7, u8, u9] ∧ Hs K ⟨H, [], Z⟩ Z4 H' [.fa (PlAt K x t f cs) pl_stay] [([.ref D], [.list ((leads cs n ms ms.length).map eTk)]), ([ps], [.list (pairs.map ePi)]), ([v], [eS n ms])]) ?_ ?_ ?_ ?_
  · exact ⟨Z3, _, _, _, _, rfl, hs6⟩
  · rintro i σ H' hi ⟨Z4, u6, u7, u8, u9, rfl, hs7⟩
    exact ⟨Z4, by tm_at "lr"⟩
  · rintro i d y σ H' hd hx ⟨Z4, u6, u7, u8, u9, rfl, hs7⟩
    obtain ⟨pr, hpr, rfl⟩ := at_map hd
    have hs8 := hs7.fact1 (hx Z4 (by tm_at "lr"))
    have ta := tk_any (leads cs n ms ms.length) pr.1 pr.2
    clear hs6 hs7 hx
    tm_at "run"
    refine ⟨p, c, pp, o, t, f, cs, Z4, v, y, n, ms, pr.1, pr.2, rfl, sk.kp0 hs8.kp, hs8.zl, by tm_at "dt", by tm_at "dt", pre, m8, fun l hl e1 e2 w H9 k9 rv => ?_, fun all w H9 k9 rv => ?_⟩
    · obtain ⟨Zr, ok, al, qd⟩ := rv
      have hs9 := ((hs8.same k9).addZ hs8 ok al).fact1 (qd.zs (List.subset_append_left _ _))
      have tt := ta.mpr ⟨l, hl, e1, e2⟩
      obtain ⟨dn, a, b, r, lp, lm, lo, l2⟩ := leads_mem hl
      clear hs8 qd al ok
      tm_at "run"
      rotate_left
      · rename_i hb
        exact absurd hb (by decide)
      · rename_i hb _ _ _ _
        exact Bool.noConfusion (tt.symm.trans hb)
      · rename_i hb _ _ _ _
        exact Bool.noConfusion (tt.symm.trans hb)
      rename_i H10 hs10 _
      clear hs9
      refine ⟨Zr ++ Z4, t, f, cs, x, v, n, ms, l.1.1, l.1.2, dn, a, b, r, by rw [e1, e2]; rfl, hs10.zl, hs10.get (.there .here), by tm_at "dt", pre, m8, lm, lo, fun w2 H11 k11 rv => ?_⟩
      obtain ⟨Z9, ok, al, qd⟩ := rv
      have hs11 := ((hs10.same k11).addZ hs10 ok al).fact1 (qd.zs (List.subset_append_left _ _))
      clear hs10 qd al ok
      have ed : eS l.2.1 l.2.2 = eS b (ms.set l.1.1 (.done r)) := by rw [l2]
      rw [← ed] at hs11
      have lw : l.2.2.length ≤ 1000 := by rw [l2, List.length_set]; omega
      tm_at "run"
      refine sp_l_same ⟨eS_dep _ _, eS_wid _ _ lw⟩ ?_
      tm_at "run"
      exact ⟨_, _, _, _, _, rfl, by tm_at "wk"⟩
    · obtain ⟨Zr, ok, al, qd⟩ := rv
      have hs9 := ((hs8.same k9).addZ hs8 ok al).fact1 (qd.zs (List.subset_append_left _ _))
      have ff : ((leads cs n ms ms.length).map eTk).any (fun y => PyData.eqv y (.tuple [.int pr.1, .int pr.2])) = false := by
        rw [← Bool.not_eq_true, ta]
        rintro ⟨l, hl, e⟩
        exact all l hl e
      clear hs8 qd al ok
      tm_at "run"
      · rename_i hb _ _ _ _
        exact Bool.noConfusion (hb.symm.trans ff)
      · rename_i hb _ _ _ _
        exact Bool.noConfusion (hb.symm.trans ff)
      · exact ⟨_, _, _, _, _, rfl, by tm_at "wk"⟩
      · rename_i hc
        exact absurd rfl hc
      · rename_i hb
        exact absurd hb (by decide)
  · rintro σ H' ⟨Z4, u6, u7, u8, u9, rfl, hs7⟩
    tm_at "run"
    exact k _ hs7.kp


end



/-! my own steps: rows of tactics, tried from above -/

/-! steps over Hs -/
















local macro_rules | `(tactic| tm_at "step") => `(tactic| first | (with_reducible refine' sp_l_same ?k1 ?_; (case k1 => tm_at "pre")) | fail)
def spLaw (K : PySem.W.Frag) : Sp := fun vs H Q _ => ∃ (a : Addr) (ns : List Int), vs = [.ref a] ∧ Scr K H a ns ∧ ∀ H', Q (.bl true) H'
theorem hs_reb {K : PySem.W.Frag} {B : Bs} {Z : List Addr} {H : Hp} {L : List Ent} {M : List (List V × List PyData)} (h : Hs K B Z H L M) (hW : ∀ x ∈ L, x.foot = []) : Hs K ⟨H, [], Z⟩ Z H L M :=
  ⟨.refl, (fun _ z => by cases z), h.zl, h.nd, h.zd, h.at_, fun x hx _ a ha => (by rw [hW x hx] at ha; cases ha), h.dp, fun _ ha => .inl ha⟩
theorem foot_nil : ∀ x ∈ ([] : List Ent), x.foot = [] := fun _ z => by cases z
theorem foot_fa {Φ : List Addr → Hp → Prop} {m : Stay Φ} {L : List Ent} (h : ∀ x ∈ L, x.foot = []) : ∀ x ∈ Ent.fa Φ m :: L, x.foot = [] := fun x hx => by
  rcases List.mem_cons.mp hx with rfl | hx
  · rfl
  · exact h x hx
abbrev eSt (x : Int × List Mrk) : PyData := eS x.1 x.2
theorem SK.sk {K : PySem.W.Frag} {CS CC CP : Addr} {H : Hp} {p : Addr} {m r : Int} {mu : Mns} {zs : List Str} {s f : Int} {cs : List Ch} (h : SK K CS CC CP H p m r mu zs s f cs) : ∃ cp pp o, SkAt K CS CP H p (.ref cp) pp o s f cs := by
  obtain ⟨dx, cp, pp, o, h1, h2, h3⟩ := h
  exact ⟨cp, pp, o, dx, h1, h3⟩
theorem wid_mapM {α : Type} (f : α → PyData) (n : Nat) : ∀ l : List α, (∀ x ∈ l, wid (f x) ≤ n) → wids (l.map f) ≤ n
  | [], _ => Nat.zero_le _
  | x :: r, h => by
    show max _ _ ≤ n
    exact Nat.max_le.mpr ⟨h x List.mem_cons_self, wid_mapM f n r fun y hy => h y (List.mem_cons_of_mem _ hy)⟩
theorem eMn_dep (mu : Mns) : (eMn mu).depth < 5 := by
  have h := dep_map (fun t : List (Str × Int) => PyData.tuple (t.map eTh)) 2 (fun t => by
    have := dep_map eTh 1 (fun x => Nat.le_refl _) t
    show PyData.depthAll _ + 1 ≤ 2
    omega) mu
  show PyData.depthAll _ + 1 < 5
  omega
theorem eMn_wid {zs : List Str} {m : Int} {mu : Mns} (g : MnsG zs m mu) : wid (eMn mu) ≤ 100000 := by
  have h := wid_mapM (fun t : List (Str × Int) => PyData.tuple (t.map eTh)) 10 mu (fun t ht => by
    have h1 := wid_map eTh 2 (fun x => Nat.le_refl _) t
    have h2 := (g.2 t ht).1
    show max _ _ ≤ 10
    rw [List.length_map]
    omega)
  have h3 := g.1.2
  show max _ _ ≤ _
  rw [List.length_map]
  omega
theorem bk_dep (t f : Int) (cs : List Ch) : (PyData.tuple [.int t, .int f, .tuple (cs.map eCh)]).depth < 5 := by
  have h := dep_map eCh 1 (fun x => Nat.le_refl _) cs
  show max 0 (max 0 (max (PyData.depthAll _ + 1) 0)) + 1 < 5
  omega
theorem bk_wid (t f : Int) (cs : List Ch) (h0 : cs.length ≤ 200) : wid (PyData.tuple [.int t, .int f, .tuple (cs.map eCh)]) ≤ 100000 := by
  have h := wid_map eCh 5 (fun x => Nat.le_refl _) cs
  show max 3 (max 0 (max 0 (max (max (cs.map eCh).length (wids _)) 0))) ≤ _
  rw [List.length_map]
  omega

section
variable {P : Program} {w : World} {K : PySem.W.Frag} {mg : Str → Option Value} {base : Heap} {CPlainBook CCodeBook CStock COddsError CBadShare CBadText CBadBook CBadMove CBadProgram CBadPlan CUnfit CTooLarge CBadEdit CCODE_FORMS CIDLE : Addr}
theorem ok_law (T : Txt P w K mg CPlainBook CCodeBook CStock COddsError CBadShare CBadText CBadBook CBadMove CBadProgram CBadPlan CUnfit CTooLarge CBadEdit CCODE_FORMS CIDLE) {f0 : Addr} {fd : FuncData} (F : Fun K "law" "law" s_law f0 fd) : FnOk P w K mg base CX0 9 f0 fd ["script"] (spLaw K) := by
  refine F.ok sc_law (fun vs H Q E h => by obtain ⟨a, ns, rfl, hscr, k⟩ := h; rfl) fun cdv A outer s H vs Q E hr h => ⟨_, (C8.pss_cut (ps_set (i := 1) sc_law.nd rfl (Or.inl rfl) (pe_fc (ok_l_pool T) pass0 (hr.mono (by omega)) (pa_cons (pv 0) (pa_cons pe_int pa_nil))))
 (pss_cons (ps_set (i := 2) sc_law.nd rfl (Or.inl rfl) (pe_ix (ixlK K) (pe_lst (pa_cons (pe_op op_add pe_int (pe_fc (ok_l_draw T) pass0 (hr.mono (by omega)) (pa_cons (pv 1) (pa_cons pe_int pa_nil)))) (pa_cons pe_int pa_nil))) (pe_callTy c_int1 (by rfl) T.n_int b_int (pa_cons (pe_cmpR op_eq (pe_fc (ok_l_draw T) pass0 (hr.mono (by omega)) (pa_cons (pv 1) (pa_cons pe_int pa_nil))) pe_int (nomark _)) pa_nil)) (fun _ _ => rfl)))
 (pss_cons (ps_asg (pe_fc (ok_l_stock T) pass0 (hr.mono (by omega)) (pa_cons (pv 1) (pa_cons (pv 2) (pa_cons pe_int pa_nil)))) (pgTK K 2 (by rfl) (pgs_cons (pg_name (i := 3) sc_law.nd rfl (Or.inl rfl)) (pgs_cons (pg_name (i := 4) sc_law.nd rfl (Or.inl rfl)) pgs_nil))))
 (pss_cons (ps_asg (pv 3) (pgTK K 2 (by rfl) (pgs_cons (pg_name (i := 5) sc_law.nd rfl (Or.inl rfl)) (pgs_cons (pg_name (i := 6) sc_law.nd rfl (Or.inl rfl)) pgs_nil))))
 (pss_cons (ps_set (i := 7) sc_law.nd rfl (Or.inl rfl) (pe_fc (ok_l_real T) pass0 (hr.mono (by omega)) (pa_cons (pv 3) pa_nil)))
 (pss_cons (ps_set (i := 8) sc_law.nd rfl (Or.inl rfl) (pe_tup (pa_cons (pe_ix (ixtK K) (pv 6) pe_int (fun _ _ => rfl)) (pa_cons (pe_callTy (tupK K) (by rfl) T.n_tuple b_tuple (pa_cons (pe_lc (own := [("menu", 17)]) (g := (gName 17)) (tt := tYes) rfl sc_law.nd (piTK K (pe_ix (ixtK K) (pv 5) pe_int (fun _ _ => rfl))) (blkOk_by (own := [("menu", 17)]) (N := ["script", "pool", "ports", "stock", "things", "code", "plain", "real", "first", "s", "states", "k", "ways", "p", "c", "far", "pairs", "menu"]) (sc := defScope s_law) (by decide +kernel)) (fun _ _ _ _ _ => (pg_name (i := 17) sc_law.nd rfl (Or.inl rfl))) (fun _ _ _ _ _ => pts_nil) (fun _ _ _ _ _ => (pe_tup pa_nil))) pa_nil)) pa_nil))))
 (pss_cons (ps_if (pt_not (pt_val (pe_fc (ok_l_same T 5) pass0 (hr.mono (by omega)) (pa_cons (pe_fc (ok_first_plain T) pass0 (hr.mono (by omega)) (pa_cons (pv 7) pa_nil)) (pa_cons (pv 8) pa_nil)))))
 (pss_one (ps_ret pe_bl))
 pss_nil)
 (pss_cons (ps_set (i := 1) sc_law.nd rfl (Or.inl rfl) (pe_fc (ok_l_pool T) pass0 (hr.mono (by omega)) (pa_cons (pv 0) (pa_cons pe_int pa_nil))))
 (pss_cons (ps_set (i := 9) sc_law.nd rfl (Or.inl rfl) (pe_fc (ok_l_state T) pass0 (hr.mono (by omega)) (pa_cons (pv 1) (pa_cons (pv 3) (pa_cons (pv 4) (pa_cons pe_int pa_nil))))))
 (pss_cons (ps_set (i := 10) sc_law.nd rfl (Or.inl rfl) (pe_lst (pa_cons (pv 8) (pa_cons (pv 9) pa_nil))))
 (pss_cons (ps_for PassesOwn.never rfl (pi_range1 (by rfl) T.n_range (pa_cons (pv 2) pa_nil)) (pg_name (i := 11) sc_law.nd rfl (Or.inl rfl))
 (pss_cons (ps_set (i := 12) sc_law.nd rfl (Or.inl rfl) (pe_fc (ok_l_takes T) pass0 (hr.mono (by omega)) (pa_cons (pv 6) (pa_cons (pv 9) pa_nil))))
 (pss_one (ps_if (pt_cmpR op_gt (pe_callB (lenK K) (by rfl) T.n_len b_len (pa_cons (pv 12) pa_nil)) pe_int (nomark _))
 (pss_cons (ps_asg (pe_ix (ixlK K) (pv 12) (pe_fc (ok_l_draw T) pass0 (hr.mono (by omega)) (pa_cons (pv 1) (pa_cons (pe_callB (lenK K) (by rfl) T.n_len b_len (pa_cons (pv 12) pa_nil)) pa_nil))) (fun _ _ => rfl)) (pgTK K 2 (by rfl) (pgs_cons (pg_name (i := 13) sc_law.nd rfl (Or.inl rfl)) (pgs_cons (pg_name (i := 14) sc_law.nd rfl (Or.inl rfl)) pgs_nil))))
 (pss_cons (ps_set (i := 9) sc_law.nd rfl (Or.inl rfl) (pe_fc (ok_l_taken T) pass0 (hr.mono (by omega)) (pa_cons (pv 6) (pa_cons (pv 9) (pa_cons (pv 13) (pa_cons (pv 14) pa_nil))))))
 (pss_one (ps_expr (pe_bm PySem.F.plainAttrs_list PySem.F.slot_list_append PySem.F.type_list_append mt_append (pv 10) (pa_cons (pv 9) pa_nil))))))
 pss_nil))))
 (pss_cons (ps_set (i := 1) sc_law.nd rfl (Or.inl rfl) (pe_fc (ok_l_pool T) pass0 (hr.mono (by omega)) (pa_cons (pv 0) (pa_cons pe_int pa_nil))))
 (pss_cons (ps_set (i := 15) sc_law.nd rfl (Or.inl rfl) (pe_fc (ok_l_draw T) pass0 (hr.mono (by omega)) (pa_cons (pv 1) (pa_cons (pe_op op_pow pe_int pe_int) pa_nil))))
 (C8.pss_cut (ps_if (pt_cmpR op_eq (pe_fc (ok_l_draw T) pass0 (hr.mono (by omega)) (pa_cons (pv 1) (pa_cons pe_int pa_nil))) pe_int (nomark _))
 (pss_one (ps_set (i := 15) sc_law.nd rfl (Or.inl rfl) (pe_op op_sub (pe_un un_neg pe_int) (pv 15))))
 pss_nil)
 (pss_cons (ps_set (i := 16) sc_law.nd rfl (Or.inl rfl) (pe_op o_catL (pe_lc (own := [("k", 11)]) (g := (gName 11)) (tt := tYes) rfl sc_law.nd (pi_range1 (by rfl) T.n_range (pa_cons (pe_op op_mulX pe_int (pe_op op_add (pv 2) pe_int)) pa_nil)) (blkOk_by (own := [("k", 11)]) (N := ["script", "pool", "ports", "stock", "things", "code", "plain", "real", "first", "s", "states", "k", "ways", "p", "c", "far", "pairs", "menu"]) (sc := defScope s_law) (by decide +kernel)) (fun _ _ _ _ _ => (pg_name (i := 11) sc_law.nd rfl (Or.inl rfl))) (fun _ _ _ _ _ => pts_nil) (fun _ _ _ _ _ => (pe_tup (pa_cons (pe_op op_sub (pe_op op_fdivW (pv 11) pe_int) pe_int) (pa_cons (pe_op op_sub (pe_op op_mod (pe_callTy c_int1 (by rfl) T.n_int b_int (pa_cons (pv 11) pa_nil)) pe_int) pe_int) pa_nil))))) (pe_lst (pa_cons (pe_tup (pa_cons (pv 15) (pa_cons pe_int pa_nil))) (pa_cons (pe_tup (pa_cons pe_int (pa_cons (pv 15) pa_nil))) pa_nil)))))
 (pss_cons (ps_for PassesOwn.never rfl (piLK K (pv 10)) (pg_name (i := 9) sc_law.nd rfl (Or.inl rfl))
 (pss_one (ps_if (pt_not (pt_val (pe_fc (ok_l_state_holds T) pass0 (hr.mono (by omega)) (pa_cons (pv 7) (pa_cons (pv 6) (pa_cons (pv 9) (pa_cons (pv 16) pa_nil)))))))
 (pss_one (ps_ret pe_bl))
 pss_nil)))
 (pss_cons (ps_if (pt_not (pt_val (pe_fc (ok_l_same T 5) pass0 (hr.mono (by omega)) (pa_cons (pe_tup (pa_cons (fldK K (fldK K (pv 7) rfl) rfl) (pa_cons (fldK K (fldK K (pv 7) rfl) rfl) (pa_cons (fldK K (fldK K (pv 7) rfl) rfl) pa_nil)))) (pa_cons (pe_tup (pa_cons (pe_ix (ixtK K) (pv 6) pe_int (fun _ _ => rfl)) (pa_cons (pe_ix (ixtK K) (pv 6) pe_int (fun _ _ => rfl)) (pa_cons (pe_ix (ixtK K) (pv 6) pe_int (fun _ _ => rfl)) pa_nil)))) pa_nil)))))
 (pss_one (ps_ret pe_bl))
 pss_nil)
 (pss_one (ps_ret (pe_fc (ok_l_same T 5) pass0 (hr.mono (by omega)) (pa_cons (fldK K (fldK K (pv 7) rfl) rfl) (pa_cons (pe_ix (ixtK K) (pv 5) pe_int (fun _ _ => rfl)) pa_nil)))))))))))))))))))))), ?_⟩
  obtain ⟨a, ns, rfl, hscr, k⟩ := h
  have hs : Hs K ⟨H, [], []⟩ [] H [] [] := Hs.start (fun _ z => by cases z) (fun _ z => by cases z)
  tm_at "go"
  refine u_cut (fun σ H' => ∃ p1, σ = [some (.ref a), some (.ref p1), none, none, none, none, none, none, none, none, none, none, none, none, none, none, none, none] ∧ Hs K ⟨H, [], []⟩ [] H' [.pool p1] []) ?_ ?_
  · tm_at "run"
    rename_i p1 H1 hn1 hk1 hp1
    exact ⟨p1, rfl, hs.newPool hk1 hn1 hp1⟩
  rintro σ H1 ⟨p1, rfl, hs1⟩
  clear hs
  tm_at "run"
  rename_i r1 H2 r10 r11 _ pl H3 _ r2 H4 r20 r21 hs2
  have inp : ∀ d ∈ [PyData.int (1 + r1), PyData.int 8], ∃ z : Int, d = .int z ∧ 1 ≤ z ∧ z ≤ 8 := fun d hd => by
    simp only [List.mem_cons, List.not_mem_nil, or_false] at hd
    rcases hd with rfl | rfl <;> exact ⟨_, rfl, by omega, by omega⟩
  refine h_ixLn (lo := 1) (hi := 8) hs2 (by tm_at "lr") (by split <;> omega) (by show _ < (2 : Int); split <;> omega) inp fun po' po1 po8 => ?_
  obtain ⟨po, rfl⟩ : ∃ po : Nat, po' = (po : Int) := ⟨po'.toNat, by omega⟩
  have hs3 : Hs K ⟨H, [], []⟩ [] H4 [.pool p1] [] := by tm_at "wk"
  clear hs1 hs2 inp
  tm_at "run"
  refine ⟨p1, po, 4, rfl, hs3.pool .here, ⟨by omega, by omega⟩, ⟨by decide, by decide⟩, fun pst H5 sv tv m mu zs t f cs ts Zr k5 pl5 zn zl hp st dt g => ?_⟩
  have hs4 := (hs3.callW (E := E) .here k5 pl5).addZ (Zr := Zr) hs3 (fun z hz => .inr (zn z hz)) zl
  obtain ⟨p0, cv, xv, rfl, h0, hc, hx⟩ := st
  obtain ⟨pc, v1, v2, v3, v4, o1, rfl, h1, d1⟩ := id hc
  obtain ⟨px, cc, o2, gl, rfl, h2, d2, fz, gr⟩ := id hx
  have d3 : Dt K Zr H5 v3 (eMn mu) := by
    cases d1 with | cons _ d1 => cases d1 with | cons _ d1 => cases d1 with | cons d1 _ => exact d1
  have zz := List.subset_append_left Zr ([] : List Addr)
  have hs5 := (((((((hs4.fa pl_stay (pl_stay.zs _ _ _ zz hx)).fa cd_stay (cd_stay.zs _ _ _ zz hc)).fa (Φ := TupF px [.int t, .int f, cc, .ref o2]) tf_stay h2).fa (Φ := TupF pc [.int m, .int 1, v1, v2, v3, v4, o1]) tf_stay h1).fa (Φ := TupF p0 [.ref pc, .ref px]) tf_stay h0).fa (Φ := TupF pst [.ref p0, tv]) tf_stay hp).fact1 (d3.zs zz)).fact1 (d2.zs zz) |>.fact1 (dt.zs zz)
  obtain ⟨gcode, gports, gbook, gsml, gfirst, gsome, gfew⟩ := id g
  have lm : (mu.map fun t => PyData.tuple (t.map eTh)).length = mu.length := List.length_map _
  have sm2 : Sml 200 cs := ⟨by have := gsml.1; omega, gsml.2⟩
  clear hs3 hs4 d1 d3 d2 dt h0 h1 h2 hp hc hx fz gr zl zn
  refine h_gtupF hs5 .here rfl ?_
  tm_at "run"
  refine h_gtupF hs5 (.there .here) rfl ?_
  tm_at "run"
  refine ⟨_, m, 1, mu, zs, t, f, cs, .ref p0, rfl, hs5.zl, ⟨p0, .ref pc, .ref px, rfl, hs5.get (.there .here), hs5.get (.there (.there (.there (.there .here)))), hs5.get (.there (.there (.there (.there (.there .here)))))⟩, gcode, sm2, gbook, fun pr H6 nr k6 sk => ?_⟩
  have hs6 := hs5.same k6
  clear hs5
  have hs6 : Hs K ⟨H, [], []⟩ (Zr ++ []) H6 [.fa (TupF p0 [.ref pc, .ref px]) tf_stay, .fa (TupF pc [.int m, .int 1, v1, v2, v3, v4, o1]) tf_stay, .fa (TupF px [.int t, .int f, cc, .ref o2]) tf_stay, .fa (CdAt K (.ref pc) m 1 mu zs) cd_stay, .fa (PlAt K (.ref px) t f cs) pl_stay] [([tv], [.list (ts.map eTh)]), ([cc], [.tuple (cs.map eCh)]), ([v3], [eMn mu])] := by tm_at "wk"
  have hscr6 := Scr.kp0 hs6.kp hscr
  have hs7 := hs_reb hs6 (foot_fa (foot_fa (foot_fa (foot_fa (foot_fa foot_nil)))))
  clear hs6
  tm_at "run"
  refine h_lcT (mu.map fun t => PyData.tuple (t.map eTh)) (fun i acc => acc = (List.replicate i Mrk.idle).map eM) hs7 (fun D acc Z' H' h => by tm_at "dt") rfl (fun D i2 d x2 acc Z3 H9 hd2 hr hacc hz hs9 => ?_) (fun D acc Z1 H7 hr hacc hz1 hs8 => ?_)
  · have hi2 : i2 < 100000 := by have := (List.getElem?_eq_some_iff.mp hd2).1; omega
    tm_at "run"
    show _ = _
    rw [hr, List.replicate_succ', List.map_append]
    rfl
  rw [lm] at hr
  rw [hr] at hs8
  have mu18 := gcode.2.2.1
  clear hs7
  tm_at "run"
  rename_i pm _ _ pf H8 hs9
  refine ⟨pr, m, 1, mu, zs, t, f, cs, rfl, sk.kp0 hs9.kp, mu18, fun v9 H9 k9 dv => ?_⟩
  have hs10 := (hs9.same k9).fact1 (dv.zs (fun _ z => by cases z))
  have lR : (List.replicate mu.length Mrk.idle).length ≤ 8 := by rw [List.length_replicate]; exact mu18.2
  have hs10 : Hs K ⟨H6, [], Zr ++ []⟩ Z1 H9 [.fa (TupF p0 [.ref pc, .ref px]) tf_stay, .fa (TupF pc [.int m, .int 1, v1, v2, v3, v4, o1]) tf_stay, .fa (TupF px [.int t, .int f, cc, .ref o2]) tf_stay, .fa (CdAt K (.ref pc) m 1 mu zs) cd_stay, .fa (PlAt K (.ref px) t f cs) pl_stay] [([v9], [eS f (List.replicate mu.length .idle)]), ([.ref pf], [eS f (List.replicate mu.length .idle)]), ([tv], [.list (ts.map eTh)]), ([cc], [.tuple (cs.map eCh)]), ([v3], [eMn mu])] := by tm_at "wk"
  have e8 := eS_dep f (List.replicate mu.length .idle)
  have e9 := eS_wid f (List.replicate mu.length .idle) (by omega)
  clear hs8 hs9 dv k9
  tm_at "run"
  rename_i H10 hs11
  refine k_pool (Scr.kp0 hs11.kp hscr6) (by decide) fun p2 H11 n11 k11 pl11 => ?_
  have hs12 := hs11.newPool k11 n11 pl11
  clear hs10 hs11 k11 n11 pl11
  tm_at "run"
  refine ⟨p2, .ref p0, tv, 8, po, m, mu, zs, t, f, cs, ts, Z1, rfl, hs12.pool .here, hs12.zd _ List.mem_cons_self p2 (by simp [Ent.pool]), hs12.zl, ⟨p0, .ref pc, .ref px, rfl, hs12.get (.there .here), hs12.get (.there (.there (.there (.there .here)))), hs12.get (.there (.there (.there (.there (.there .here)))))⟩, by tm_at "dt", g, ⟨by decide, by decide⟩, fun vs1 H12 n ms k12 pl12 lms dv1 => ?_⟩
  have hs13 := (hs12.callW (E := E) .here k12 pl12).fact1 (dv1.zs (fun _ z => by cases z))
  have m8 : ms.length ≤ 8 := by omega
  clear hs12 k12 pl12 dv1
  tm_at "run"
  rename_i q H13 hs14
  have hs14 : Hs K ⟨H6, [], Zr ++ []⟩ Z1 H13 [.dl K q [eS f (List.replicate mu.length Mrk.idle), eS n ms] true, .pool p2, .fa (TupF pc [.int m, .int 1, v1, v2, v3, v4, o1]) tf_stay, .fa (TupF px [.int t, .int f, cc, .ref o2]) tf_stay, .fa (PlAt K (.ref px) t f cs) pl_stay] [([vs1], [eS n ms]), ([cc], [.tuple (cs.map eCh)]), ([v3], [eMn mu])] := by tm_at "wk"
  have hs14 : Hs K ⟨H6, [], Zr ++ []⟩ Z1 H13 [.dl K q ([(f, List.replicate mu.length Mrk.idle), (n, ms)].map eSt) true, .pool p2, .fa (TupF pc [.int m, .int 1, v1, v2, v3, v4, o1]) tf_stay, .fa (TupF px [.int t, .int f, cc, .ref o2]) tf_stay, .fa (PlAt K (.ref px) t f cs) pl_stay] [([vs1], [eS n ms]), ([cc], [.tuple (cs.map eCh)]), ([v3], [eMn mu])] := hs14
  clear hs13
  refine l_range (fun i σ H' => ∃ (Z2 : List Addr) (v : V) (n : Int) (ms : List Mrk) (sts : List (Int × List Mrk)) (u11 u12 u13 u14 u17 : Option V), σ = [some (.ref a), some (.ref p2), some (.int (po : Nat)), some (.ref p0), some tv, some (.ref pc), some (.ref px), some (.ref pr), some (.ref pf), some v, some (.ref q), u11, u12, u13, u14, none, none, u17] ∧ ms.length ≤ 8 ∧ sts.length ≤ i + 2 ∧ (∀ x ∈ sts, x.2.length ≤ 8) ∧
    Hs K ⟨H6, [], Zr ++ []⟩ Z2 H' [.dl K q (sts.map eSt) true, .pool p2, .fa (TupF pc [.int m, .int 1, v1, v2, v3, v4, o1]) tf_stay, .fa (TupF px [.int t, .int f, cc, .ref o2]) tf_stay, .fa (PlAt K (.ref px) t f cs) pl_stay] [([v], [eS n ms]), ([cc], [.tuple (cs.map eCh)]), ([v3], [eMn mu])]) ?_ ?_ ?_
  · refine ⟨Z1, vs1, n, ms, [(f, List.replicate mu.length Mrk.idle), (n, ms)], _, _, _, _, _, rfl, m8, Nat.le_refl _, fun x hx => ?_, hs14⟩
    simp only [List.mem_cons, List.not_mem_nil, or_false] at hx
    rcases hx with rfl | rfl
    · exact lR
    · exact m8
  · rintro i σ H14 hi ⟨Z2, v, n, ms, sts, u11, u12, u13, u14, u17, rfl, m8, lst, st8, hs15⟩
    have lL := leads_len cs n ms ms.length sm2.1
    have lt : ((leads cs n ms ms.length).map eTk).length = (leads cs n ms ms.length).length := List.length_map _
    have lss : (sts.map eSt).length = sts.length := List.length_map _
    clear hs14
    tm_at "run"
    refine k_ltakes hs15 (hs15.get (.there (.there (.there (.there .here))))) (by tm_at "dt") sm2 m8 (retL fun w Z3 H15 zz hs16 => ?_)
    clear hs15
    tm_at "run"
    rotate_left
    · exact ⟨Z3, v, n, ms, sts, _, _, _, _, _, rfl, m8, by omega, st8, by tm_at "wk"⟩
    rename_i r H16 r0 r1 hs17
    refine h_ixLf hs17 (l := leads cs n ms ms.length) (by tm_at "lr") (by omega) (by omega) fun l hl xl dl hs18 => ?_
    obtain ⟨dn, aa, b, rr, lp, lmm, lo, l2⟩ := leads_mem hl
    clear hs16 hs17 dl
    tm_at "run"
    refine ⟨Z3, t, f, cs, .ref px, v, n, ms, l.1.1, l.1.2, dn, aa, b, rr, rfl, hs18.zl, hs18.get (.there (.there (.there (.there (.there .here))))), by tm_at "dt", sm2, m8, lmm, lo, fun vt H17 k17 rv => ?_⟩
    obtain ⟨Z9, ok, al, qd⟩ := rv
    have hs19 := ((hs18.same k17).addZ hs18 ok al).fact1 (qd.zs (List.subset_append_left _ _))
    have l8 : (ms.set l.1.1 (.done rr)).length ≤ 8 := by rw [List.length_set]; exact m8
    clear hs18 qd al ok k17
    tm_at "run"
    rename_i H18 hs20
    refine ⟨Z9 ++ Z3, vt, b, ms.set l.1.1 (.done rr), sts ++ [(b, ms.set l.1.1 (.done rr))], _, _, _, _, _, rfl, l8, by rw [List.length_append]; simp; omega, fun x hx => ?_, ?_⟩
    · rcases List.mem_append.mp hx with y | y
      · exact st8 x y
      · rw [List.mem_singleton.mp y]; exact l8
    · rw [List.map_append]
      show Hs K ⟨H6, [], Zr ++ []⟩ (Z9 ++ Z3) H18 [.dl K q (sts.map eSt ++ [eS b (ms.set l.1.1 (.done rr))]) true, .pool p2, .fa (TupF pc [.int m, .int 1, v1, v2, v3, v4, o1]) tf_stay, .fa (TupF px [.int t, .int f, cc, .ref o2]) tf_stay, .fa (PlAt K (.ref px) t f cs) pl_stay] _
      tm_at "wk"
  · rintro σ H14 ⟨Z2, v, n, ms, sts, u11, u12, u13, u14, u17, rfl, m8, lst, st8, hs15⟩
    clear hs14
    tm_at "run"
    refine k_pool (Scr.kp0 hs15.kp hscr6) (by decide) fun p3 H15 n15 k15 pl15 => ?_
    have hs16 := hs15.newPool k15 n15 pl15
    clear hs15 n15 k15 pl15
    tm_at "run"
    refine u_cut (fun σ H' => ∃ far : Int, σ = [some (.ref a), some (.ref p3), some (.int (po : Nat)), some (.ref p0), some tv, some (.ref pc), some (.ref px), some (.ref pr), some (.ref pf), some v, some (.ref q), u11, u12, u13, u14, some (.int far), none, u17] ∧ Hs K ⟨H6, [], Zr ++ []⟩ Z2 H' [.dl K q (sts.map eSt) true, .fa (TupF pc [.int m, .int 1, v1, v2, v3, v4, o1]) tf_stay, .fa (TupF px [.int t, .int f, cc, .ref o2]) tf_stay, .fa (PlAt K (.ref px) t f cs) pl_stay] [([cc], [.tuple (cs.map eCh)]), ([v3], [eMn mu])]) ?_ ?_
    · tm_at "run"
      · exact ⟨_, rfl, by tm_at "wk"⟩
      · exact ⟨_, rfl, by tm_at "wk"⟩
    rintro σ H16 ⟨far, rfl, hs17⟩
    clear hs16
    tm_at "run"
    refine h_lcR (fun j acc => ∃ ps : List (Int × Int), acc = ps.map ePi ∧ ps.length = j) hs17 ⟨[], rfl, rfl⟩ (fun D i2 acc Z3 H9 hi2 hr hacc hz hs9 => ?_) (fun D acc Z3 H9 hr hacc hz hs9 => ?_)
    · have hi3 : i2 < 100000 := by omega
      obtain ⟨ps, rfl, lps⟩ := hr
      clear hs17
      tm_at "run"
      exact ⟨ps ++ [(_, _)], by rw [List.map_append]; rfl, by rw [List.length_append, lps]; rfl⟩
    obtain ⟨ps, rfl, lps⟩ := hr
    have lpm : (ps.map ePi).length ≤ 1000 := by rw [List.length_map]; omega
    clear hs17
    tm_at "run"
    rename_i _ _ _ p7 _ _ p8 H17 hs18
    have ep : ps.map ePi ++ [.tuple [.int far, .int 0], .tuple [.int 0, .int far]] = (ps ++ [(far, 0), (0, far)]).map ePi := by rw [List.map_append]; rfl
    rw [ep] at hs18
    generalize ps ++ [(far, 0), (0, far)] = pairs at hs18
    have hs19 := hs18.freeze .here
    have hs19 : Hs K ⟨H6, [], Zr ++ []⟩ (p8 :: Z3) H17 [.dl K q (sts.map eSt) true, .fa (TupF pc [.int m, .int 1, v1, v2, v3, v4, o1]) tf_stay, .fa (TupF px [.int t, .int f, cc, .ref o2]) tf_stay, .fa (PlAt K (.ref px) t f cs) pl_stay] [([.ref p8], [.list (pairs.map ePi)]), ([cc], [.tuple (cs.map eCh)]), ([v3], [eMn mu])] := by tm_at "wk"
    clear hs9 hs18
    refine l_dl (sts.map eSt) (fun i σ H' => ∃ (Z4 : List Addr) (v : V) (u11 u12 u13 u14 u17 : Option V), σ = [some (.ref a), some (.ref p3), some (.int (po : Nat)), some (.ref p0), some tv, some (.ref pc), some (.ref px), some (.ref pr), some (.ref pf), some v, some (.ref q), u11, u12, u13, u14, some (.int far), some (.ref p8), u17] ∧ Hs K ⟨H6, [], Zr ++ []⟩ Z4 H' [.dl K q (sts.map eSt) true, .fa (TupF pc [.int m, .int 1, v1, v2, v3, v4, o1]) tf_stay, .fa (TupF px [.int t, .int f, cc, .ref o2]) tf_stay, .fa (PlAt K (.ref px) t f cs) pl_stay] [([.ref p8], [.list (pairs.map ePi)]), ([cc], [.tuple (cs.map eCh)]), ([v3], [eMn mu])]) ?_ ?_ ?_ ?_
    · exact ⟨_, v, _, _, _, _, _, rfl, hs19⟩
    · rintro i σ H' hi ⟨Z4, v, u11, u12, u13, u14, u17, rfl, hs20⟩
      exact ⟨Z4, hs20.dlv .here⟩
    · rintro i d x σ H' hd hx ⟨Z4, v, u11, u12, u13, u14, u17, rfl, hs20⟩
      obtain ⟨st, hst, rfl⟩ := at_map hd
      have hs21 := hs20.fact1 (hx Z4 (hs20.dlv .here))
      have s8 := st8 st (List.mem_of_getElem? hst)
      clear hs19 hs20 hx
      tm_at "run"
      obtain ⟨cp, pp, oo, sk9⟩ := (sk.kp0 hs21.kp).sk
      refine ⟨pr, .ref cp, pp, oo, t, f, cs, Z4, .ref px, x, .ref p8, st.1, st.2, pairs, rfl, sk9, hs21.zl, hs21.get (.there (.there (.there .here))), by tm_at "dt", by tm_at "dt", sm2, s8, fun H18 k18 => ?_⟩
      have hs22 := hs21.same k18
      clear hs21
      tm_at "run"
      exact ⟨_, x, _, _, _, _, _, rfl, by tm_at "wk"⟩
    · rintro σ H' ⟨Z4, v, u11, u12, u13, u14, u17, rfl, hs20⟩
      clear hs19
      obtain ⟨dx, cp, pp, oo, e1, ⟨dc, rw_, pr_, po_, de_, ln_, c1, c2, c3, c4, c5⟩, ⟨dy, ch, sd, b1, b2, b3, b4⟩⟩ := sk.kp0 hs20.kp
      have hs21 := hs20.fact1 (b2.zs (fun _ z => by cases z))
      have d1 := bk_dep t f cs
      have d2 := bk_wid t f cs sm2.1
      have d3 := eMn_dep mu
      have d4 := eMn_wid gcode.2.2
      clear hs20 c1 c2 c3 c4 c5 b2 b3
      tm_at "run"
      refine fld_of T.sk.cl T.sk.n2 e1 (lk_of 1 ["code"] rfl rfl (by decide +kernel)) ?_
      refine fld_of T.pb.cl T.pb.n1 b1 pb_l1 ?_
      tm_at "run"
      refine fld_of T.sk.cl T.sk.n2 e1 (lk_of 1 ["code"] rfl rfl (by decide +kernel)) ?_
      refine fld_of T.pb.cl T.pb.n2 b1 pb_l2 ?_
      tm_at "run"
      refine fld_of T.sk.cl T.sk.n2 e1 (lk_of 1 ["code"] rfl rfl (by decide +kernel)) ?_
      refine fld_of T.pb.cl T.pb.n3 b1 pb_l3 ?_
      tm_at "run"
      rename_i H9 hs22
      obtain ⟨dx, cp, pp, oo, e1, ⟨dc, rw_, pr_, po_, de_, ln_, c1, c2, c3, c4, c5⟩, _⟩ := sk.kp0 hs22.kp
      have hs23 := hs22.fact1 (c4.zs (fun _ z => by cases z))
      clear hs21 hs22 c2 c3 c4 c5
      refine fld_of T.sk.cl T.sk.n1 e1 (lk_of 0 [] rfl rfl (by decide)) ?_
      refine fld_of T.cb.cl T.cb.n5 c1 (lk_of 4 ["modulus", "registers", "rows", "parts"] rfl rfl (by decide +kernel)) ?_
      tm_at "run"
      exact k _


end

end My
set_option Elab.async false
set_option linter.all false
set_option autoImplicit false
set_option maxRecDepth 100000
set_option maxHeartbeats 4000000
namespace My
open PySem PySem.Spec PyProof.Rows L2 U
theorem val_row {k : Str} {t : Tok} {a : Addr} : ∀ (i : Nat) (rows : List (Str × Tok × Addr)) (ns : List Str), rows[i]? = some (k, t, a) → (rows.take i).map (·.1) = ns → k ∉ ns → valV (rows.map rowV) (.inr k) = some (.ref a)
  | 0, (g, u, b) :: r, ns, h, _, _ => by
    cases h
    exact valV_pos rfl
  | i + 1, (g, u, b) :: r, ns, h, e, n => by
    subst e
    have h1 : ¬ (Sum.inr g : Key) = Sum.inr k := fun z => n (by rw [← Sum.inr.inj z]; exact List.mem_cons_self)
    exact (valV_neg h1).trans (val_row i r _ h rfl fun z => n (List.mem_cons_of_mem _ z))
  | 0, [], _, h, _, _ => by cases h
  | i + 1, [], _, h, _, _ => by cases h
theorem mk_all {P : Program} {w : World} {K : PySem.W.Frag} {h : Heap} {mg : Str → Option Value} {fa : Addr} (X : K.In h) (G : h.Ns mainGlobals mg) (hfa : mg "law" = some (.ref fa))
    {CPlainBook : Addr} {CCodeBook : Addr} {CStock : Addr} {COddsError : Addr} {CBadShare : Addr} {CBadText : Addr} {CBadBook : Addr} {CBadMove : Addr} {CBadProgram : Addr} {CBadPlan : Addr} {CUnfit : Addr} {CTooLarge : Addr} {CBadEdit : Addr} {CCODE_FORMS : Addr} {CIDLE : Addr} {f_l_int : Addr} {od_l_int an_l_int : Option Addr} {sl_l_int : Array (Option Value)} {oc_l_int kV_l_int dc_l_int pm_l_int cd_l_int ct_l_int : Value} {f_l_pool : Addr} {od_l_pool an_l_pool : Option Addr} {sl_l_pool : Array (Option Value)} {oc_l_pool kV_l_pool dc_l_pool pm_l_pool cd_l_pool ct_l_pool : Value} {f_l_draw : Addr} {od_l_draw an_l_draw : Option Addr} {sl_l_draw : Array (Option Value)} {oc_l_draw kV_l_draw dc_l_draw pm_l_draw cd_l_draw ct_l_draw : Value} {f_law : Addr} {od_law an_law : Option Addr} {sl_law : Array (Option Value)} {oc_law kV_law dc_law pm_law cd_law ct_law : Value} {f_is_name : Addr} {od_is_name an_is_name : Option Addr} {sl_is_name : Array (Option Value)} {oc_is_name kV_is_name dc_is_name pm_is_name cd_is_name ct_is_name : Value} {f_check_choice : Addr} {od_check_choice an_check_choice : Option Addr} {sl_check_choice : Array (Option Value)} {oc_check_choice kV_check_choice dc_check_choice pm_check_choice cd_check_choice ct_check_choice : Value} {f_grouped_options : Addr} {od_grouped_options an_grouped_options : Option Addr} {sl_grouped_options : Array (Option Value)} {oc_grouped_options kV_grouped_options dc_grouped_options pm_grouped_options cd_grouped_options ct_grouped_options : Value} {f_l_same : Addr} {od_l_same an_l_same : Option Addr} {sl_l_same : Array (Option Value)} {oc_l_same kV_l_same dc_l_same pm_l_same cd_l_same ct_l_same : Value} {f_done_mark : Addr} {od_done_mark an_done_mark : Option Addr} {sl_done_mark : Array (Option Value)} {oc_done_mark kV_done_mark dc_done_mark pm_done_mark cd_done_mark ct_done_mark : Value} {f_is_asked : Addr} {od_is_asked an_is_asked : Option Addr} {sl_is_asked : Array (Option Value)} {oc_is_asked kV_is_asked dc_is_asked pm_is_asked cd_is_asked ct_is_asked : Value} {f_with_mark : Addr} {od_with_mark an_with_mark : Option Addr} {sl_with_mark : Array (Option Value)} {oc_with_mark kV_with_mark dc_with_mark pm_with_mark cd_with_mark ct_with_mark : Value} {f_take_leads : Addr} {od_take_leads an_take_leads : Option Addr} {sl_take_leads : Array (Option Value)} {oc_take_leads kV_take_leads dc_take_leads pm_take_leads cd_take_leads ct_take_leads : Value} {f_takes_of : Addr} {od_takes_of an_takes_of : Option Addr} {sl_takes_of : Array (Option Value)} {oc_takes_of kV_takes_of dc_takes_of pm_takes_of cd_takes_of ct_takes_of : Value} {f_taken : Addr} {od_taken an_taken : Option Addr} {sl_taken : Array (Option Value)} {oc_taken kV_taken dc_taken pm_taken cd_taken ct_taken : Value} {f_form_of : Addr} {od_form_of an_form_of : Option Addr} {sl_form_of : Array (Option Value)} {oc_form_of kV_form_of dc_form_of pm_form_of cd_form_of ct_form_of : Value} {f_check_code : Addr} {od_check_code an_check_code : Option Addr} {sl_check_code : Array (Option Value)} {oc_check_code kV_check_code dc_check_code pm_check_code cd_check_code ct_check_code : Value} {f_check_number : Addr} {od_check_number an_check_number : Option Addr} {sl_check_number : Array (Option Value)} {oc_check_number kV_check_number dc_check_number pm_check_number cd_check_number ct_check_number : Value} {f_check_names : Addr} {od_check_names an_check_names : Option Addr} {sl_check_names : Array (Option Value)} {oc_check_names kV_check_names dc_check_names pm_check_names cd_check_names ct_check_names : Value} {f_check_rows : Addr} {od_check_rows an_check_rows : Option Addr} {sl_check_rows : Array (Option Value)} {oc_check_rows kV_check_rows dc_check_rows pm_check_rows cd_check_rows ct_check_rows : Value} {f_check_parts : Addr} {od_check_parts an_check_parts : Option Addr} {sl_check_parts : Array (Option Value)} {oc_check_parts kV_check_parts dc_check_parts pm_check_parts cd_check_parts ct_check_parts : Value} {f_check_ports : Addr} {od_check_ports an_check_ports : Option Addr} {sl_check_ports : Array (Option Value)} {oc_check_ports kV_check_ports dc_check_ports pm_check_ports cd_check_ports ct_check_ports : Value} {f_check_instruction : Addr} {od_check_instruction an_check_instruction : Option Addr} {sl_check_instruction : Array (Option Value)} {oc_check_instruction kV_check_instruction dc_check_instruction pm_check_instruction cd_check_instruction ct_check_instruction : Value} {f_check_course : Addr} {od_check_course an_check_course : Option Addr} {sl_check_course : Array (Option Value)} {oc_check_course kV_check_course dc_check_course pm_check_course cd_check_course ct_check_course : Value} {f_has_fused_ring : Addr} {od_has_fused_ring an_has_fused_ring : Option Addr} {sl_has_fused_ring : Array (Option Value)} {oc_has_fused_ring kV_has_fused_ring dc_has_fused_ring pm_has_fused_ring cd_has_fused_ring ct_has_fused_ring : Value} {f_copied_menu : Addr} {od_copied_menu an_copied_menu : Option Addr} {sl_copied_menu : Array (Option Value)} {oc_copied_menu kV_copied_menu dc_copied_menu pm_copied_menu cd_copied_menu ct_copied_menu : Value} {f_copied_lines : Addr} {od_copied_lines an_copied_lines : Option Addr} {sl_copied_lines : Array (Option Value)} {oc_copied_lines kV_copied_lines dc_copied_lines pm_copied_lines cd_copied_lines ct_copied_lines : Value} {f_first_plain : Addr} {od_first_plain an_first_plain : Option Addr} {sl_first_plain : Array (Option Value)} {oc_first_plain kV_first_plain dc_first_plain pm_first_plain cd_first_plain ct_first_plain : Value} {f_l_plain : Addr} {od_l_plain an_l_plain : Option Addr} {sl_l_plain : Array (Option Value)} {oc_l_plain kV_l_plain dc_l_plain pm_l_plain cd_l_plain ct_l_plain : Value} {f_l_code : Addr} {od_l_code an_l_code : Option Addr} {sl_l_code : Array (Option Value)} {oc_l_code kV_l_code dc_l_code pm_l_code cd_l_code ct_l_code : Value} {f_l_real_plain : Addr} {od_l_real_plain an_l_real_plain : Option Addr} {sl_l_real_plain : Array (Option Value)} {oc_l_real_plain kV_l_real_plain dc_l_real_plain pm_l_real_plain cd_l_real_plain ct_l_real_plain : Value} {f_l_real_code : Addr} {od_l_real_code an_l_real_code : Option Addr} {sl_l_real_code : Array (Option Value)} {oc_l_real_code kV_l_real_code dc_l_real_code pm_l_real_code cd_l_real_code ct_l_real_code : Value} {f_l_real : Addr} {od_l_real an_l_real : Option Addr} {sl_l_real : Array (Option Value)} {oc_l_real kV_l_real dc_l_real pm_l_real cd_l_real ct_l_real : Value} {f_l_names : Addr} {od_l_names an_l_names : Option Addr} {sl_l_names : Array (Option Value)} {oc_l_names kV_l_names dc_l_names pm_l_names cd_l_names ct_l_names : Value} {f_l_things : Addr} {od_l_things an_l_things : Option Addr} {sl_l_things : Array (Option Value)} {oc_l_things kV_l_things dc_l_things pm_l_things cd_l_things ct_l_things : Value} {f_l_choices : Addr} {od_l_choices an_l_choices : Option Addr} {sl_l_choices : Array (Option Value)} {oc_l_choices kV_l_choices dc_l_choices pm_l_choices cd_l_choices ct_l_choices : Value} {f_l_stock : Addr} {od_l_stock an_l_stock : Option Addr} {sl_l_stock : Array (Option Value)} {oc_l_stock kV_l_stock dc_l_stock pm_l_stock cd_l_stock ct_l_stock : Value} {f_l_state : Addr} {od_l_state an_l_state : Option Addr} {sl_l_state : Array (Option Value)} {oc_l_state kV_l_state dc_l_state pm_l_state cd_l_state ct_l_state : Value} {f_l_options : Addr} {od_l_options an_l_options : Option Addr} {sl_l_options : Array (Option Value)} {oc_l_options kV_l_options dc_l_options pm_l_options cd_l_options ct_l_options : Value} {f_l_takes : Addr} {od_l_takes an_l_takes : Option Addr} {sl_l_takes : Array (Option Value)} {oc_l_takes kV_l_takes dc_l_takes pm_l_takes cd_l_takes ct_l_takes : Value} {f_l_taken : Addr} {od_l_taken an_l_taken : Option Addr} {sl_l_taken : Array (Option Value)} {oc_l_taken kV_l_taken dc_l_taken pm_l_taken cd_l_taken ct_l_taken : Value} {f_l_take : Addr} {od_l_take an_l_take : Option Addr} {sl_l_take : Array (Option Value)} {oc_l_take kV_l_take dc_l_take pm_l_take cd_l_take ct_l_take : Value} {f_l_state_holds : Addr} {od_l_state_holds an_l_state_holds : Option Addr} {sl_l_state_holds : Array (Option Value)} {oc_l_state_holds kV_l_state_holds dc_l_state_holds pm_l_state_holds cd_l_state_holds ct_l_state_holds : Value} {f_PlainBook_options : Addr} {od_PlainBook_options an_PlainBook_options : Option Addr} {sl_PlainBook_options : Array (Option Value)} {oc_PlainBook_options kV_PlainBook_options dc_PlainBook_options pm_PlainBook_options cd_PlainBook_options ct_PlainBook_options : Value} {f_initCodeBook : Addr} {od_initCodeBook an_initCodeBook : Option Addr} {sl_initCodeBook : Array (Option Value)} {oc_initCodeBook kV_initCodeBook dc_initCodeBook pm_initCodeBook cd_initCodeBook ct_initCodeBook : Value} {f_initStock : Addr} {od_initStock an_initStock : Option Addr} {sl_initStock : Array (Option Value)} {oc_initStock kV_initStock dc_initStock pm_initStock cd_initStock ct_initStock : Value} {f_initPlainBook : Addr} {od_initPlainBook an_initPlainBook : Option Addr} {sl_initPlainBook : Array (Option Value)} {oc_initPlainBook kV_initPlainBook dc_initPlainBook pm_initPlainBook cd_initPlainBook ct_initPlainBook : Value} {dID : Option Addr} {nID : Nat} {slID : Array (Option Value)} {tcf0 tcf1 tcf2 tcf3 tcf4 tcf5 tcf6 tcf7 tcf8 tcf9 tcf10 tcf11 tcf12 tcr : Tok} {acf0 acf1 acf2 acf3 acf4 acf5 acf6 acf7 acf8 acf9 acf10 acf11 acf12 : Addr} {nCF nCR : Nat} {dCR : Option Addr} {slCR : Array (Option Value)} {fBBadMove ccBBadMove cdBBadMove : Addr} {odBBadMove anBBadMove dc2BBadMove dc3BBadMove ddBBadMove : Option Addr} {slBBadMove sl2BBadMove sl3BBadMove : Array (Option Value)} {ocBBadMove kVBBadMove doBBadMove pmBBadMove ctBBadMove oc2BBadMove oc3BBadMove : Value} {vsBBadMove : Array Value} {fileBBadMove : Str} {tfBBadMove : Tok} {nmBBadMove qBBadMove : Str} {NBBadMove : Addr} {bsBBadMove bmBBadMove : List Value} {snBBadMove : List Str} {subBBadMove : List Value} {abBBadMove : Bool} {colBBadMove : Option Bool} {k0BBadMove k1BBadMove k2BBadMove k3BBadMove k5BBadMove : Option Value} {tk_LETTERS : Tok} {tk_DIGITS : Tok} {tk_MOST_NAME_CHARACTERS : Tok} {tk_MOST_STATES : Tok} {tk_MOST_OPTIONS : Tok} {tk_VALUE_LIMIT : Tok} {tk_LEAST_MODULUS : Tok} {tk_MOST_MODULUS : Tok} {tk_MOST_REGISTERS : Tok} {tk_MOST_ROWS : Tok} {tk_MOST_CELLS : Tok} {tk_MOST_PARTS : Tok} {tk_MOST_PORTS : Tok} {tk_MOST_ITEMS : Tok} {tk_MOST_DEEDS : Tok} {tk_MOST_LINES : Tok} {tk_PLACE_LIMIT : Tok} {tk_NAME_LETTER : Tok} {tk_ASKED : Tok} {tk_DONE : Tok}
        (gCPlainBook : PySem.W.nsIn K mainGlobals "PlainBook" = some (some (.ref CPlainBook)))
    (gCCodeBook : PySem.W.nsIn K mainGlobals "CodeBook" = some (some (.ref CCodeBook)))
    (gCStock : PySem.W.nsIn K mainGlobals "Stock" = some (some (.ref CStock)))
    (gCOddsError : PySem.W.nsIn K mainGlobals "OddsError" = some (some (.ref COddsError)))
    (gCBadShare : PySem.W.nsIn K mainGlobals "BadShare" = some (some (.ref CBadShare)))
    (gCBadText : PySem.W.nsIn K mainGlobals "BadText" = some (some (.ref CBadText)))
    (gCBadBook : PySem.W.nsIn K mainGlobals "BadBook" = some (some (.ref CBadBook)))
    (gCBadMove : PySem.W.nsIn K mainGlobals "BadMove" = some (some (.ref CBadMove)))
    (gCBadProgram : PySem.W.nsIn K mainGlobals "BadProgram" = some (some (.ref CBadProgram)))
    (gCBadPlan : PySem.W.nsIn K mainGlobals "BadPlan" = some (some (.ref CBadPlan)))
    (gCUnfit : PySem.W.nsIn K mainGlobals "Unfit" = some (some (.ref CUnfit)))
    (gCTooLarge : PySem.W.nsIn K mainGlobals "TooLarge" = some (some (.ref CTooLarge)))
    (gCBadEdit : PySem.W.nsIn K mainGlobals "BadEdit" = some (some (.ref CBadEdit)))
    (gCCODE_FORMS : PySem.W.nsIn K mainGlobals "CODE_FORMS" = some (some (.ref CCODE_FORMS)))
    (gCIDLE : PySem.W.nsIn K mainGlobals "IDLE" = some (some (.ref CIDLE)))
    (hn0 : PySem.W.specialIn K (.builtin "object.__class__") "__get__" = some (some (.builtin "getset_descriptor.__get__")))
    (ht0 : PySem.W.takesIn K (.builtin "object.__class__") = some true)
    (a_l_int : PySem.W.nsIn K mainGlobals "_law_int" = some (some (.ref f_l_int)))
    (l_l_int : K.lookup f_l_int = some ⟨oc_l_int, od_l_int, .func (PySem.W.fnOf "_law_int" "_law_int" (defArgs s_l_int) (defBody s_l_int) (defScope s_l_int) .none kV_l_int dc_l_int pm_l_int an_l_int cd_l_int ct_l_int), sl_l_int⟩)
    (c_l_int : PySem.W.codeIn K cd_l_int "_law_int" = true)
    (k_l_int : PySem.W.keepIn K (.ref f_l_int) = true)
    (a_l_pool : PySem.W.nsIn K mainGlobals "_law_pool" = some (some (.ref f_l_pool)))
    (l_l_pool : K.lookup f_l_pool = some ⟨oc_l_pool, od_l_pool, .func (PySem.W.fnOf "_law_pool" "_law_pool" (defArgs s_l_pool) (defBody s_l_pool) (defScope s_l_pool) .none kV_l_pool dc_l_pool pm_l_pool an_l_pool cd_l_pool ct_l_pool), sl_l_pool⟩)
    (c_l_pool : PySem.W.codeIn K cd_l_pool "_law_pool" = true)
    (k_l_pool : PySem.W.keepIn K (.ref f_l_pool) = true)
    (a_l_draw : PySem.W.nsIn K mainGlobals "_law_draw" = some (some (.ref f_l_draw)))
    (l_l_draw : K.lookup f_l_draw = some ⟨oc_l_draw, od_l_draw, .func (PySem.W.fnOf "_law_draw" "_law_draw" (defArgs s_l_draw) (defBody s_l_draw) (defScope s_l_draw) .none kV_l_draw dc_l_draw pm_l_draw an_l_draw cd_l_draw ct_l_draw), sl_l_draw⟩)
    (c_l_draw : PySem.W.codeIn K cd_l_draw "_law_draw" = true)
    (k_l_draw : PySem.W.keepIn K (.ref f_l_draw) = true)
    (a_law : PySem.W.nsIn K mainGlobals "law" = some (some (.ref f_law)))
    (l_law : K.lookup f_law = some ⟨oc_law, od_law, .func (PySem.W.fnOf "law" "law" (defArgs s_law) (defBody s_law) (defScope s_law) .none kV_law dc_law pm_law an_law cd_law ct_law), sl_law⟩)
    (c_law : PySem.W.codeIn K cd_law "law" = true)
    (k_law : PySem.W.keepIn K (.ref f_law) = true)
    (a_is_name : PySem.W.nsIn K mainGlobals "is_name" = some (some (.ref f_is_name)))
    (l_is_name : K.lookup f_is_name = some ⟨oc_is_name, od_is_name, .func (PySem.W.fnOf "is_name" "is_name" (defArgs s_is_name) (defBody s_is_name) (defScope s_is_name) .none kV_is_name dc_is_name pm_is_name an_is_name cd_is_name ct_is_name), sl_is_name⟩)
    (c_is_name : PySem.W.codeIn K cd_is_name "is_name" = true)
    (k_is_name : PySem.W.keepIn K (.ref f_is_name) = true)
    (a_check_choice : PySem.W.nsIn K mainGlobals "check_choice" = some (some (.ref f_check_choice)))
    (l_check_choice : K.lookup f_check_choice = some ⟨oc_check_choice, od_check_choice, .func (PySem.W.fnOf "check_choice" "check_choice" (defArgs s_check_choice) (defBody s_check_choice) (defScope s_check_choice) .none kV_check_choice dc_check_choice pm_check_choice an_check_choice cd_check_choice ct_check_choice), sl_check_choice⟩)
    (c_check_choice : PySem.W.codeIn K cd_check_choice "check_choice" = true)
    (k_check_choice : PySem.W.keepIn K (.ref f_check_choice) = true)
    (a_grouped_options : PySem.W.nsIn K mainGlobals "grouped_options" = some (some (.ref f_grouped_options)))
    (l_grouped_options : K.lookup f_grouped_options = some ⟨oc_grouped_options, od_grouped_options, .func (PySem.W.fnOf "grouped_options" "grouped_options" (defArgs s_grouped_options) (defBody s_grouped_options) (defScope s_grouped_options) .none kV_grouped_options dc_grouped_options pm_grouped_options an_grouped_options cd_grouped_options ct_grouped_options), sl_grouped_options⟩)
    (c_grouped_options : PySem.W.codeIn K cd_grouped_options "grouped_options" = true)
    (k_grouped_options : PySem.W.keepIn K (.ref f_grouped_options) = true)
    (a_l_same : PySem.W.nsIn K mainGlobals "_law_same" = some (some (.ref f_l_same)))
    (l_l_same : K.lookup f_l_same = some ⟨oc_l_same, od_l_same, .func (PySem.W.fnOf "_law_same" "_law_same" (defArgs s_l_same) (defBody s_l_same) (defScope s_l_same) .none kV_l_same dc_l_same pm_l_same an_l_same cd_l_same ct_l_same), sl_l_same⟩)
    (c_l_same : PySem.W.codeIn K cd_l_same "_law_same" = true)
    (k_l_same : PySem.W.keepIn K (.ref f_l_same) = true)
    (a_done_mark : PySem.W.nsIn K mainGlobals "done_mark" = some (some (.ref f_done_mark)))
    (l_done_mark : K.lookup f_done_mark = some ⟨oc_done_mark, od_done_mark, .func (PySem.W.fnOf "done_mark" "done_mark" (defArgs s_done_mark) (defBody s_done_mark) (defScope s_done_mark) .none kV_done_mark dc_done_mark pm_done_mark an_done_mark cd_done_mark ct_done_mark), sl_done_mark⟩)
    (c_done_mark : PySem.W.codeIn K cd_done_mark "done_mark" = true)
    (k_done_mark : PySem.W.keepIn K (.ref f_done_mark) = true)
    (a_is_asked : PySem.W.nsIn K mainGlobals "is_asked" = some (some (.ref f_is_asked)))
    (l_is_asked : K.lookup f_is_asked = some ⟨oc_is_asked, od_is_asked, .func (PySem.W.fnOf "is_asked" "is_asked" (defArgs s_is_asked) (defBody s_is_asked) (defScope s_is_asked) .none kV_is_asked dc_is_asked pm_is_asked an_is_asked cd_is_asked ct_is_asked), sl_is_asked⟩)
    (c_is_asked : PySem.W.codeIn K cd_is_asked "is_asked" = true)
    (k_is_asked : PySem.W.keepIn K (.ref f_is_asked) = true)
    (a_with_mark : PySem.W.nsIn K mainGlobals "with_mark" = some (some (.ref f_with_mark)))
    (l_with_mark : K.lookup f_with_mark = some ⟨oc_with_mark, od_with_mark, .func (PySem.W.fnOf "with_mark" "with_mark" (defArgs s_with_mark) (defBody s_with_mark) (defScope s_with_mark) .none kV_with_mark dc_with_mark pm_with_mark an_with_mark cd_with_mark ct_with_mark), sl_with_mark⟩)
    (c_with_mark : PySem.W.codeIn K cd_with_mark "with_mark" = true)
    (k_with_mark : PySem.W.keepIn K (.ref f_with_mark) = true)
    (a_take_leads : PySem.W.nsIn K mainGlobals "take_leads" = some (some (.ref f_take_leads)))
    (l_take_leads : K.lookup f_take_leads = some ⟨oc_take_leads, od_take_leads, .func (PySem.W.fnOf "take_leads" "take_leads" (defArgs s_take_leads) (defBody s_take_leads) (defScope s_take_leads) .none kV_take_leads dc_take_leads pm_take_leads an_take_leads cd_take_leads ct_take_leads), sl_take_leads⟩)
    (c_take_leads : PySem.W.codeIn K cd_take_leads "take_leads" = true)
    (k_take_leads : PySem.W.keepIn K (.ref f_take_leads) = true)
    (a_takes_of : PySem.W.nsIn K mainGlobals "takes_of" = some (some (.ref f_takes_of)))
    (l_takes_of : K.lookup f_takes_of = some ⟨oc_takes_of, od_takes_of, .func (PySem.W.fnOf "takes_of" "takes_of" (defArgs s_takes_of) (defBody s_takes_of) (defScope s_takes_of) .none kV_takes_of dc_takes_of pm_takes_of an_takes_of cd_takes_of ct_takes_of), sl_takes_of⟩)
    (c_takes_of : PySem.W.codeIn K cd_takes_of "takes_of" = true)
    (k_takes_of : PySem.W.keepIn K (.ref f_takes_of) = true)
    (a_taken : PySem.W.nsIn K mainGlobals "taken" = some (some (.ref f_taken)))
    (l_taken : K.lookup f_taken = some ⟨oc_taken, od_taken, .func (PySem.W.fnOf "taken" "taken" (defArgs s_taken) (defBody s_taken) (defScope s_taken) .none kV_taken dc_taken pm_taken an_taken cd_taken ct_taken), sl_taken⟩)
    (c_taken : PySem.W.codeIn K cd_taken "taken" = true)
    (k_taken : PySem.W.keepIn K (.ref f_taken) = true)
    (a_form_of : PySem.W.nsIn K mainGlobals "form_of" = some (some (.ref f_form_of)))
    (l_form_of : K.lookup f_form_of = some ⟨oc_form_of, od_form_of, .func (PySem.W.fnOf "form_of" "form_of" (defArgs s_form_of) (defBody s_form_of) (defScope s_form_of) .none kV_form_of dc_form_of pm_form_of an_form_of cd_form_of ct_form_of), sl_form_of⟩)
    (c_form_of : PySem.W.codeIn K cd_form_of "form_of" = true)
    (k_form_of : PySem.W.keepIn K (.ref f_form_of) = true)
    (a_check_code : PySem.W.nsIn K mainGlobals "check_code" = some (some (.ref f_check_code)))
    (l_check_code : K.lookup f_check_code = some ⟨oc_check_code, od_check_code, .func (PySem.W.fnOf "check_code" "check_code" (defArgs s_check_code) (defBody s_check_code) (defScope s_check_code) .none kV_check_code dc_check_code pm_check_code an_check_code cd_check_code ct_check_code), sl_check_code⟩)
    (c_check_code : PySem.W.codeIn K cd_check_code "check_code" = true)
    (k_check_code : PySem.W.keepIn K (.ref f_check_code) = true)
    (a_check_number : PySem.W.nsIn K mainGlobals "check_number" = some (some (.ref f_check_number)))
    (l_check_number : K.lookup f_check_number = some ⟨oc_check_number, od_check_number, .func (PySem.W.fnOf "check_number" "check_number" (defArgs s_check_number) (defBody s_check_number) (defScope s_check_number) .none kV_check_number dc_check_number pm_check_number an_check_number cd_check_number ct_check_number), sl_check_number⟩)
    (c_check_number : PySem.W.codeIn K cd_check_number "check_number" = true)
    (k_check_number : PySem.W.keepIn K (.ref f_check_number) = true)
    (a_check_names : PySem.W.nsIn K mainGlobals "check_names" = some (some (.ref f_check_names)))
    (l_check_names : K.lookup f_check_names = some ⟨oc_check_names, od_check_names, .func (PySem.W.fnOf "check_names" "check_names" (defArgs s_check_names) (defBody s_check_names) (defScope s_check_names) .none kV_check_names dc_check_names pm_check_names an_check_names cd_check_names ct_check_names), sl_check_names⟩)
    (c_check_names : PySem.W.codeIn K cd_check_names "check_names" = true)
    (k_check_names : PySem.W.keepIn K (.ref f_check_names) = true)
    (a_check_rows : PySem.W.nsIn K mainGlobals "check_rows" = some (some (.ref f_check_rows)))
    (l_check_rows : K.lookup f_check_rows = some ⟨oc_check_rows, od_check_rows, .func (PySem.W.fnOf "check_rows" "check_rows" (defArgs s_check_rows) (defBody s_check_rows) (defScope s_check_rows) .none kV_check_rows dc_check_rows pm_check_rows an_check_rows cd_check_rows ct_check_rows), sl_check_rows⟩)
    (c_check_rows : PySem.W.codeIn K cd_check_rows "check_rows" = true)
    (k_check_rows : PySem.W.keepIn K (.ref f_check_rows) = true)
    (a_check_parts : PySem.W.nsIn K mainGlobals "check_parts" = some (some (.ref f_check_parts)))
    (l_check_parts : K.lookup f_check_parts = some ⟨oc_check_parts, od_check_parts, .func (PySem.W.fnOf "check_parts" "check_parts" (defArgs s_check_parts) (defBody s_check_parts) (defScope s_check_parts) .none kV_check_parts dc_check_parts pm_check_parts an_check_parts cd_check_parts ct_check_parts), sl_check_parts⟩)
    (c_check_parts : PySem.W.codeIn K cd_check_parts "check_parts" = true)
    (k_check_parts : PySem.W.keepIn K (.ref f_check_parts) = true)
    (a_check_ports : PySem.W.nsIn K mainGlobals "check_ports" = some (some (.ref f_check_ports)))
    (l_check_ports : K.lookup f_check_ports = some ⟨oc_check_ports, od_check_ports, .func (PySem.W.fnOf "check_ports" "check_ports" (defArgs s_check_ports) (defBody s_check_ports) (defScope s_check_ports) .none kV_check_ports dc_check_ports pm_check_ports an_check_ports cd_check_ports ct_check_ports), sl_check_ports⟩)
    (c_check_ports : PySem.W.codeIn K cd_check_ports "check_ports" = true)
    (k_check_ports : PySem.W.keepIn K (.ref f_check_ports) = true)
    (a_check_instruction : PySem.W.nsIn K mainGlobals "check_instruction" = some (some (.ref f_check_instruction)))
    (l_check_instruction : K.lookup f_check_instruction = some ⟨oc_check_instruction, od_check_instruction, .func (PySem.W.fnOf "check_instruction" "check_instruction" (defArgs s_check_instruction) (defBody s_check_instruction) (defScope s_check_instruction) .none kV_check_instruction dc_check_instruction pm_check_instruction an_check_instruction cd_check_instruction ct_check_instruction), sl_check_instruction⟩)
    (c_check_instruction : PySem.W.codeIn K cd_check_instruction "check_instruction" = true)
    (k_check_instruction : PySem.W.keepIn K (.ref f_check_instruction) = true)
    (a_check_course : PySem.W.nsIn K mainGlobals "check_course" = some (some (.ref f_check_course)))
    (l_check_course : K.lookup f_check_course = some ⟨oc_check_course, od_check_course, .func (PySem.W.fnOf "check_course" "check_course" (defArgs s_check_course) (defBody s_check_course) (defScope s_check_course) .none kV_check_course dc_check_course pm_check_course an_check_course cd_check_course ct_check_course), sl_check_course⟩)
    (c_check_course : PySem.W.codeIn K cd_check_course "check_course" = true)
    (k_check_course : PySem.W.keepIn K (.ref f_check_course) = true)
    (a_has_fused_ring : PySem.W.nsIn K mainGlobals "has_fused_ring" = some (some (.ref f_has_fused_ring)))
    (l_has_fused_ring : K.lookup f_has_fused_ring = some ⟨oc_has_fused_ring, od_has_fused_ring, .func (PySem.W.fnOf "has_fused_ring" "has_fused_ring" (defArgs s_has_fused_ring) (defBody s_has_fused_ring) (defScope s_has_fused_ring) .none kV_has_fused_ring dc_has_fused_ring pm_has_fused_ring an_has_fused_ring cd_has_fused_ring ct_has_fused_ring), sl_has_fused_ring⟩)
    (c_has_fused_ring : PySem.W.codeIn K cd_has_fused_ring "has_fused_ring" = true)
    (k_has_fused_ring : PySem.W.keepIn K (.ref f_has_fused_ring) = true)
    (a_copied_menu : PySem.W.nsIn K mainGlobals "copied_menu" = some (some (.ref f_copied_menu)))
    (l_copied_menu : K.lookup f_copied_menu = some ⟨oc_copied_menu, od_copied_menu, .func (PySem.W.fnOf "copied_menu" "copied_menu" (defArgs s_copied_menu) (defBody s_copied_menu) (defScope s_copied_menu) .none kV_copied_menu dc_copied_menu pm_copied_menu an_copied_menu cd_copied_menu ct_copied_menu), sl_copied_menu⟩)
    (c_copied_menu : PySem.W.codeIn K cd_copied_menu "copied_menu" = true)
    (k_copied_menu : PySem.W.keepIn K (.ref f_copied_menu) = true)
    (a_copied_lines : PySem.W.nsIn K mainGlobals "copied_lines" = some (some (.ref f_copied_lines)))
    (l_copied_lines : K.lookup f_copied_lines = some ⟨oc_copied_lines, od_copied_lines, .func (PySem.W.fnOf "copied_lines" "copied_lines" (defArgs s_copied_lines) (defBody s_copied_lines) (defScope s_copied_lines) .none kV_copied_lines dc_copied_lines pm_copied_lines an_copied_lines cd_copied_lines ct_copied_lines), sl_copied_lines⟩)
    (c_copied_lines : PySem.W.codeIn K cd_copied_lines "copied_lines" = true)
    (k_copied_lines : PySem.W.keepIn K (.ref f_copied_lines) = true)
    (a_first_plain : PySem.W.nsIn K mainGlobals "first_plain" = some (some (.ref f_first_plain)))
    (l_first_plain : K.lookup f_first_plain = some ⟨oc_first_plain, od_first_plain, .func (PySem.W.fnOf "first_plain" "first_plain" (defArgs s_first_plain) (defBody s_first_plain) (defScope s_first_plain) .none kV_first_plain dc_first_plain pm_first_plain an_first_plain cd_first_plain ct_first_plain), sl_first_plain⟩)
    (c_first_plain : PySem.W.codeIn K cd_first_plain "first_plain" = true)
    (k_first_plain : PySem.W.keepIn K (.ref f_first_plain) = true)
    (a_l_plain : PySem.W.nsIn K mainGlobals "_law_plain" = some (some (.ref f_l_plain)))
    (l_l_plain : K.lookup f_l_plain = some ⟨oc_l_plain, od_l_plain, .func (PySem.W.fnOf "_law_plain" "_law_plain" (defArgs s_l_plain) (defBody s_l_plain) (defScope s_l_plain) .none kV_l_plain dc_l_plain pm_l_plain an_l_plain cd_l_plain ct_l_plain), sl_l_plain⟩)
    (c_l_plain : PySem.W.codeIn K cd_l_plain "_law_plain" = true)
    (k_l_plain : PySem.W.keepIn K (.ref f_l_plain) = true)
    (a_l_code : PySem.W.nsIn K mainGlobals "_law_code" = some (some (.ref f_l_code)))
    (l_l_code : K.lookup f_l_code = some ⟨oc_l_code, od_l_code, .func (PySem.W.fnOf "_law_code" "_law_code" (defArgs s_l_code) (defBody s_l_code) (defScope s_l_code) .none kV_l_code dc_l_code pm_l_code an_l_code cd_l_code ct_l_code), sl_l_code⟩)
    (c_l_code : PySem.W.codeIn K cd_l_code "_law_code" = true)
    (k_l_code : PySem.W.keepIn K (.ref f_l_code) = true)
    (a_l_real_plain : PySem.W.nsIn K mainGlobals "_law_real_plain" = some (some (.ref f_l_real_plain)))
    (l_l_real_plain : K.lookup f_l_real_plain = some ⟨oc_l_real_plain, od_l_real_plain, .func (PySem.W.fnOf "_law_real_plain" "_law_real_plain" (defArgs s_l_real_plain) (defBody s_l_real_plain) (defScope s_l_real_plain) .none kV_l_real_plain dc_l_real_plain pm_l_real_plain an_l_real_plain cd_l_real_plain ct_l_real_plain), sl_l_real_plain⟩)
    (c_l_real_plain : PySem.W.codeIn K cd_l_real_plain "_law_real_plain" = true)
    (k_l_real_plain : PySem.W.keepIn K (.ref f_l_real_plain) = true)
    (a_l_real_code : PySem.W.nsIn K mainGlobals "_law_real_code" = some (some (.ref f_l_real_code)))
    (l_l_real_code : K.lookup f_l_real_code = some ⟨oc_l_real_code, od_l_real_code, .func (PySem.W.fnOf "_law_real_code" "_law_real_code" (defArgs s_l_real_code) (defBody s_l_real_code) (defScope s_l_real_code) .none kV_l_real_code dc_l_real_code pm_l_real_code an_l_real_code cd_l_real_code ct_l_real_code), sl_l_real_code⟩)
    (c_l_real_code : PySem.W.codeIn K cd_l_real_code "_law_real_code" = true)
    (k_l_real_code : PySem.W.keepIn K (.ref f_l_real_code) = true)
    (a_l_real : PySem.W.nsIn K mainGlobals "_law_real" = some (some (.ref f_l_real)))
    (l_l_real : K.lookup f_l_real = some ⟨oc_l_real, od_l_real, .func (PySem.W.fnOf "_law_real" "_law_real" (defArgs s_l_real) (defBody s_l_real) (defScope s_l_real) .none kV_l_real dc_l_real pm_l_real an_l_real cd_l_real ct_l_real), sl_l_real⟩)
    (c_l_real : PySem.W.codeIn K cd_l_real "_law_real" = true)
    (k_l_real : PySem.W.keepIn K (.ref f_l_real) = true)
    (a_l_names : PySem.W.nsIn K mainGlobals "_law_names" = some (some (.ref f_l_names)))
    (l_l_names : K.lookup f_l_names = some ⟨oc_l_names, od_l_names, .func (PySem.W.fnOf "_law_names" "_law_names" (defArgs s_l_names) (defBody s_l_names) (defScope s_l_names) .none kV_l_names dc_l_names pm_l_names an_l_names cd_l_names ct_l_names), sl_l_names⟩)
    (c_l_names : PySem.W.codeIn K cd_l_names "_law_names" = true)
    (k_l_names : PySem.W.keepIn K (.ref f_l_names) = true)
    (a_l_things : PySem.W.nsIn K mainGlobals "_law_things" = some (some (.ref f_l_things)))
    (l_l_things : K.lookup f_l_things = some ⟨oc_l_things, od_l_things, .func (PySem.W.fnOf "_law_things" "_law_things" (defArgs s_l_things) (defBody s_l_things) (defScope s_l_things) .none kV_l_things dc_l_things pm_l_things an_l_things cd_l_things ct_l_things), sl_l_things⟩)
    (c_l_things : PySem.W.codeIn K cd_l_things "_law_things" = true)
    (k_l_things : PySem.W.keepIn K (.ref f_l_things) = true)
    (a_l_choices : PySem.W.nsIn K mainGlobals "_law_choices" = some (some (.ref f_l_choices)))
    (l_l_choices : K.lookup f_l_choices = some ⟨oc_l_choices, od_l_choices, .func (PySem.W.fnOf "_law_choices" "_law_choices" (defArgs s_l_choices) (defBody s_l_choices) (defScope s_l_choices) .none kV_l_choices dc_l_choices pm_l_choices an_l_choices cd_l_choices ct_l_choices), sl_l_choices⟩)
    (c_l_choices : PySem.W.codeIn K cd_l_choices "_law_choices" = true)
    (k_l_choices : PySem.W.keepIn K (.ref f_l_choices) = true)
    (a_l_stock : PySem.W.nsIn K mainGlobals "_law_stock" = some (some (.ref f_l_stock)))
    (l_l_stock : K.lookup f_l_stock = some ⟨oc_l_stock, od_l_stock, .func (PySem.W.fnOf "_law_stock" "_law_stock" (defArgs s_l_stock) (defBody s_l_stock) (defScope s_l_stock) .none kV_l_stock dc_l_stock pm_l_stock an_l_stock cd_l_stock ct_l_stock), sl_l_stock⟩)
    (c_l_stock : PySem.W.codeIn K cd_l_stock "_law_stock" = true)
    (k_l_stock : PySem.W.keepIn K (.ref f_l_stock) = true)
    (a_l_state : PySem.W.nsIn K mainGlobals "_law_state" = some (some (.ref f_l_state)))
    (l_l_state : K.lookup f_l_state = some ⟨oc_l_state, od_l_state, .func (PySem.W.fnOf "_law_state" "_law_state" (defArgs s_l_state) (defBody s_l_state) (defScope s_l_state) .none kV_l_state dc_l_state pm_l_state an_l_state cd_l_state ct_l_state), sl_l_state⟩)
    (c_l_state : PySem.W.codeIn K cd_l_state "_law_state" = true)
    (k_l_state : PySem.W.keepIn K (.ref f_l_state) = true)
    (a_l_options : PySem.W.nsIn K mainGlobals "_law_options" = some (some (.ref f_l_options)))
    (l_l_options : K.lookup f_l_options = some ⟨oc_l_options, od_l_options, .func (PySem.W.fnOf "_law_options" "_law_options" (defArgs s_l_options) (defBody s_l_options) (defScope s_l_options) .none kV_l_options dc_l_options pm_l_options an_l_options cd_l_options ct_l_options), sl_l_options⟩)
    (c_l_options : PySem.W.codeIn K cd_l_options "_law_options" = true)
    (k_l_options : PySem.W.keepIn K (.ref f_l_options) = true)
    (a_l_takes : PySem.W.nsIn K mainGlobals "_law_takes" = some (some (.ref f_l_takes)))
    (l_l_takes : K.lookup f_l_takes = some ⟨oc_l_takes, od_l_takes, .func (PySem.W.fnOf "_law_takes" "_law_takes" (defArgs s_l_takes) (defBody s_l_takes) (defScope s_l_takes) .none kV_l_takes dc_l_takes pm_l_takes an_l_takes cd_l_takes ct_l_takes), sl_l_takes⟩)
    (c_l_takes : PySem.W.codeIn K cd_l_takes "_law_takes" = true)
    (k_l_takes : PySem.W.keepIn K (.ref f_l_takes) = true)
    (a_l_taken : PySem.W.nsIn K mainGlobals "_law_taken" = some (some (.ref f_l_taken)))
    (l_l_taken : K.lookup f_l_taken = some ⟨oc_l_taken, od_l_taken, .func (PySem.W.fnOf "_law_taken" "_law_taken" (defArgs s_l_taken) (defBody s_l_taken) (defScope s_l_taken) .none kV_l_taken dc_l_taken pm_l_taken an_l_taken cd_l_taken ct_l_taken), sl_l_taken⟩)
    (c_l_taken : PySem.W.codeIn K cd_l_taken "_law_taken" = true)
    (k_l_taken : PySem.W.keepIn K (.ref f_l_taken) = true)
    (a_l_take : PySem.W.nsIn K mainGlobals "_law_take" = some (some (.ref f_l_take)))
    (l_l_take : K.lookup f_l_take = some ⟨oc_l_take, od_l_take, .func (PySem.W.fnOf "_law_take" "_law_take" (defArgs s_l_take) (defBody s_l_take) (defScope s_l_take) .none kV_l_take dc_l_take pm_l_take an_l_take cd_l_take ct_l_take), sl_l_take⟩)
    (c_l_take : PySem.W.codeIn K cd_l_take "_law_take" = true)
    (k_l_take : PySem.W.keepIn K (.ref f_l_take) = true)
    (a_l_state_holds : PySem.W.nsIn K mainGlobals "_law_state_holds" = some (some (.ref f_l_state_holds)))
    (l_l_state_holds : K.lookup f_l_state_holds = some ⟨oc_l_state_holds, od_l_state_holds, .func (PySem.W.fnOf "_law_state_holds" "_law_state_holds" (defArgs s_l_state_holds) (defBody s_l_state_holds) (defScope s_l_state_holds) .none kV_l_state_holds dc_l_state_holds pm_l_state_holds an_l_state_holds cd_l_state_holds ct_l_state_holds), sl_l_state_holds⟩)
    (c_l_state_holds : PySem.W.codeIn K cd_l_state_holds "_law_state_holds" = true)
    (k_l_state_holds : PySem.W.keepIn K (.ref f_l_state_holds) = true)
    (z_isinstance : PySem.W.nsIn K mainGlobals "isinstance" = some none)
    (z_int : PySem.W.nsIn K mainGlobals "int" = some none)
    (z_bool : PySem.W.nsIn K mainGlobals "bool" = some none)
    (z_str : PySem.W.nsIn K mainGlobals "str" = some none)
    (z_tuple : PySem.W.nsIn K mainGlobals "tuple" = some none)
    (z_list : PySem.W.nsIn K mainGlobals "list" = some none)
    (z_len : PySem.W.nsIn K mainGlobals "len" = some none)
    (z_abs : PySem.W.nsIn K mainGlobals "abs" = some none)
    (z_max : PySem.W.nsIn K mainGlobals "max" = some none)
    (z_min : PySem.W.nsIn K mainGlobals "min" = some none)
    (z_range : PySem.W.nsIn K mainGlobals "range" = some none)
    (z_ValueError : PySem.W.nsIn K mainGlobals "ValueError" = some none)
    (z_enumerate : PySem.W.nsIn K mainGlobals "enumerate" = some none)
    (z_set : PySem.W.nsIn K mainGlobals "set" = some none)
    (z_dict : PySem.W.nsIn K mainGlobals "dict" = some none)
    (z_sum : PySem.W.nsIn K mainGlobals "sum" = some none)
    (z_sorted : PySem.W.nsIn K mainGlobals "sorted" = some none)
    (z_zip : PySem.W.nsIn K mainGlobals "zip" = some none)
    (a_PlainBook_options : PySem.W.findIn K (.ref CPlainBook) "options" = some (some (.ref f_PlainBook_options)))
    (i_PlainBook_options : PySem.W.isFn K (.ref f_PlainBook_options) = true)
    (l_PlainBook_options : K.lookup f_PlainBook_options = some ⟨oc_PlainBook_options, od_PlainBook_options, .func (PySem.W.fnOf "options" "PlainBook.options" (defArgs s_PlainBook_options) (defBody s_PlainBook_options) (defScope s_PlainBook_options) .none kV_PlainBook_options dc_PlainBook_options pm_PlainBook_options an_PlainBook_options cd_PlainBook_options ct_PlainBook_options), sl_PlainBook_options⟩)
    (c_PlainBook_options : PySem.W.codeIn K cd_PlainBook_options "PlainBook.options" = true)
    (k_PlainBook_options : PySem.W.keepIn K (.ref f_PlainBook_options) = true)
    (kCOddsError : PySem.W.keepIn K (.ref COddsError) = true)
    (bCOddsError : PySem.W.subIn K (.ref COddsError) (.type "BaseException") = some true)
    (tCOddsError : PySem.W.typeIn K (.ref COddsError) = some (.type "type"))
    (gaCOddsError : PySem.W.findIn K (.ref COddsError) "__getattribute__" = some (some (.builtin "BaseException.__getattribute__")))
    (gbCOddsError : PySem.W.findIn K (.ref COddsError) "__getattr__" = some none)
    (hdCOddsError : PySem.W.hasDictIn K COddsError = true)
    (clCOddsError : PySem.W.findIn K (.ref COddsError) "__class__" = some (some (.builtin "object.__class__")))
    (mrCOddsError : PySem.W.mroIn K COddsError (.type "object") = some true)
    (kCBadShare : PySem.W.keepIn K (.ref CBadShare) = true)
    (bCBadShare : PySem.W.subIn K (.ref CBadShare) (.type "BaseException") = some true)
    (tCBadShare : PySem.W.typeIn K (.ref CBadShare) = some (.type "type"))
    (gaCBadShare : PySem.W.findIn K (.ref CBadShare) "__getattribute__" = some (some (.builtin "BaseException.__getattribute__")))
    (gbCBadShare : PySem.W.findIn K (.ref CBadShare) "__getattr__" = some none)
    (hdCBadShare : PySem.W.hasDictIn K CBadShare = true)
    (clCBadShare : PySem.W.findIn K (.ref CBadShare) "__class__" = some (some (.builtin "object.__class__")))
    (mrCBadShare : PySem.W.mroIn K CBadShare (.type "object") = some true)
    (kCBadText : PySem.W.keepIn K (.ref CBadText) = true)
    (bCBadText : PySem.W.subIn K (.ref CBadText) (.type "BaseException") = some true)
    (tCBadText : PySem.W.typeIn K (.ref CBadText) = some (.type "type"))
    (gaCBadText : PySem.W.findIn K (.ref CBadText) "__getattribute__" = some (some (.builtin "BaseException.__getattribute__")))
    (gbCBadText : PySem.W.findIn K (.ref CBadText) "__getattr__" = some none)
    (hdCBadText : PySem.W.hasDictIn K CBadText = true)
    (clCBadText : PySem.W.findIn K (.ref CBadText) "__class__" = some (some (.builtin "object.__class__")))
    (mrCBadText : PySem.W.mroIn K CBadText (.type "object") = some true)
    (kCBadBook : PySem.W.keepIn K (.ref CBadBook) = true)
    (bCBadBook : PySem.W.subIn K (.ref CBadBook) (.type "BaseException") = some true)
    (tCBadBook : PySem.W.typeIn K (.ref CBadBook) = some (.type "type"))
    (gaCBadBook : PySem.W.findIn K (.ref CBadBook) "__getattribute__" = some (some (.builtin "BaseException.__getattribute__")))
    (gbCBadBook : PySem.W.findIn K (.ref CBadBook) "__getattr__" = some none)
    (hdCBadBook : PySem.W.hasDictIn K CBadBook = true)
    (clCBadBook : PySem.W.findIn K (.ref CBadBook) "__class__" = some (some (.builtin "object.__class__")))
    (mrCBadBook : PySem.W.mroIn K CBadBook (.type "object") = some true)
    (kCBadMove : PySem.W.keepIn K (.ref CBadMove) = true)
    (bCBadMove : PySem.W.subIn K (.ref CBadMove) (.type "BaseException") = some true)
    (tCBadMove : PySem.W.typeIn K (.ref CBadMove) = some (.type "type"))
    (gaCBadMove : PySem.W.findIn K (.ref CBadMove) "__getattribute__" = some (some (.builtin "BaseException.__getattribute__")))
    (gbCBadMove : PySem.W.findIn K (.ref CBadMove) "__getattr__" = some none)
    (hdCBadMove : PySem.W.hasDictIn K CBadMove = true)
    (clCBadMove : PySem.W.findIn K (.ref CBadMove) "__class__" = some (some (.builtin "object.__class__")))
    (mrCBadMove : PySem.W.mroIn K CBadMove (.type "object") = some true)
    (kCBadProgram : PySem.W.keepIn K (.ref CBadProgram) = true)
    (bCBadProgram : PySem.W.subIn K (.ref CBadProgram) (.type "BaseException") = some true)
    (tCBadProgram : PySem.W.typeIn K (.ref CBadProgram) = some (.type "type"))
    (gaCBadProgram : PySem.W.findIn K (.ref CBadProgram) "__getattribute__" = some (some (.builtin "BaseException.__getattribute__")))
    (gbCBadProgram : PySem.W.findIn K (.ref CBadProgram) "__getattr__" = some none)
    (hdCBadProgram : PySem.W.hasDictIn K CBadProgram = true)
    (clCBadProgram : PySem.W.findIn K (.ref CBadProgram) "__class__" = some (some (.builtin "object.__class__")))
    (mrCBadProgram : PySem.W.mroIn K CBadProgram (.type "object") = some true)
    (kCBadPlan : PySem.W.keepIn K (.ref CBadPlan) = true)
    (bCBadPlan : PySem.W.subIn K (.ref CBadPlan) (.type "BaseException") = some true)
    (tCBadPlan : PySem.W.typeIn K (.ref CBadPlan) = some (.type "type"))
    (gaCBadPlan : PySem.W.findIn K (.ref CBadPlan) "__getattribute__" = some (some (.builtin "BaseException.__getattribute__")))
    (gbCBadPlan : PySem.W.findIn K (.ref CBadPlan) "__getattr__" = some none)
    (hdCBadPlan : PySem.W.hasDictIn K CBadPlan = true)
    (clCBadPlan : PySem.W.findIn K (.ref CBadPlan) "__class__" = some (some (.builtin "object.__class__")))
    (mrCBadPlan : PySem.W.mroIn K CBadPlan (.type "object") = some true)
    (kCUnfit : PySem.W.keepIn K (.ref CUnfit) = true)
    (bCUnfit : PySem.W.subIn K (.ref CUnfit) (.type "BaseException") = some true)
    (tCUnfit : PySem.W.typeIn K (.ref CUnfit) = some (.type "type"))
    (gaCUnfit : PySem.W.findIn K (.ref CUnfit) "__getattribute__" = some (some (.builtin "BaseException.__getattribute__")))
    (gbCUnfit : PySem.W.findIn K (.ref CUnfit) "__getattr__" = some none)
    (hdCUnfit : PySem.W.hasDictIn K CUnfit = true)
    (clCUnfit : PySem.W.findIn K (.ref CUnfit) "__class__" = some (some (.builtin "object.__class__")))
    (mrCUnfit : PySem.W.mroIn K CUnfit (.type "object") = some true)
    (kCTooLarge : PySem.W.keepIn K (.ref CTooLarge) = true)
    (bCTooLarge : PySem.W.subIn K (.ref CTooLarge) (.type "BaseException") = some true)
    (tCTooLarge : PySem.W.typeIn K (.ref CTooLarge) = some (.type "type"))
    (gaCTooLarge : PySem.W.findIn K (.ref CTooLarge) "__getattribute__" = some (some (.builtin "BaseException.__getattribute__")))
    (gbCTooLarge : PySem.W.findIn K (.ref CTooLarge) "__getattr__" = some none)
    (hdCTooLarge : PySem.W.hasDictIn K CTooLarge = true)
    (clCTooLarge : PySem.W.findIn K (.ref CTooLarge) "__class__" = some (some (.builtin "object.__class__")))
    (mrCTooLarge : PySem.W.mroIn K CTooLarge (.type "object") = some true)
    (kCBadEdit : PySem.W.keepIn K (.ref CBadEdit) = true)
    (bCBadEdit : PySem.W.subIn K (.ref CBadEdit) (.type "BaseException") = some true)
    (tCBadEdit : PySem.W.typeIn K (.ref CBadEdit) = some (.type "type"))
    (gaCBadEdit : PySem.W.findIn K (.ref CBadEdit) "__getattribute__" = some (some (.builtin "BaseException.__getattribute__")))
    (gbCBadEdit : PySem.W.findIn K (.ref CBadEdit) "__getattr__" = some none)
    (hdCBadEdit : PySem.W.hasDictIn K CBadEdit = true)
    (clCBadEdit : PySem.W.findIn K (.ref CBadEdit) "__class__" = some (some (.builtin "object.__class__")))
    (mrCBadEdit : PySem.W.mroIn K CBadEdit (.type "object") = some true)
    (cb_pg : PySem.W.plainGet K CCodeBook Str.empty = true)
    (cb_hd : PySem.W.hasDictIn K CCodeBook = true)
    (cb_po : PySem.W.plainOver K CCodeBook = true)
    (cb_sa : PySem.W.findIn K (.ref CCodeBook) "__setattr__" = some (some (.builtin "object.__setattr__")))
    (cb_n1 : PySem.W.findIn K (.ref CCodeBook) "modulus" = some none)
    (cb_n2 : PySem.W.findIn K (.ref CCodeBook) "registers" = some none)
    (cb_n3 : PySem.W.findIn K (.ref CCodeBook) "rows" = some none)
    (cb_n4 : PySem.W.findIn K (.ref CCodeBook) "parts" = some none)
    (cb_n5 : PySem.W.findIn K (.ref CCodeBook) "ports" = some none)
    (cb_n6 : PySem.W.findIn K (.ref CCodeBook) "deeds" = some none)
    (cb_n7 : PySem.W.findIn K (.ref CCodeBook) "_lines_by_name" = some none)
    (cb_mk : PySem.W.makesIn K CCodeBook = true)
    (cb_kp : PySem.W.keepIn K (.ref CCodeBook) = true)
    (a_initCodeBook : PySem.W.findIn K (.ref CCodeBook) "__init__" = some (some (.ref f_initCodeBook)))
    (i_initCodeBook : PySem.W.isFn K (.ref f_initCodeBook) = true)
    (l_initCodeBook : K.lookup f_initCodeBook = some ⟨oc_initCodeBook, od_initCodeBook, .func (PySem.W.fnOf "__init__" "CodeBook.__init__" (defArgs s_CodeBook___init__) (defBody s_CodeBook___init__) (defScope s_CodeBook___init__) .none kV_initCodeBook dc_initCodeBook pm_initCodeBook an_initCodeBook cd_initCodeBook ct_initCodeBook), sl_initCodeBook⟩)
    (c_initCodeBook : PySem.W.codeIn K cd_initCodeBook "CodeBook.__init__" = true)
    (k_initCodeBook : PySem.W.keepIn K (.ref f_initCodeBook) = true)
    (sk_pg : PySem.W.plainGet K CStock Str.empty = true)
    (sk_hd : PySem.W.hasDictIn K CStock = true)
    (sk_po : PySem.W.plainOver K CStock = true)
    (sk_sa : PySem.W.findIn K (.ref CStock) "__setattr__" = some (some (.builtin "object.__setattr__")))
    (sk_n1 : PySem.W.findIn K (.ref CStock) "code" = some none)
    (sk_n2 : PySem.W.findIn K (.ref CStock) "plain" = some none)
    (sk_mk : PySem.W.makesIn K CStock = true)
    (sk_kp : PySem.W.keepIn K (.ref CStock) = true)
    (a_initStock : PySem.W.findIn K (.ref CStock) "__init__" = some (some (.ref f_initStock)))
    (i_initStock : PySem.W.isFn K (.ref f_initStock) = true)
    (l_initStock : K.lookup f_initStock = some ⟨oc_initStock, od_initStock, .func (PySem.W.fnOf "__init__" "Stock.__init__" (defArgs s_Stock___init__) (defBody s_Stock___init__) (defScope s_Stock___init__) .none kV_initStock dc_initStock pm_initStock an_initStock cd_initStock ct_initStock), sl_initStock⟩)
    (c_initStock : PySem.W.codeIn K cd_initStock "Stock.__init__" = true)
    (k_initStock : PySem.W.keepIn K (.ref f_initStock) = true)
    (pb_pg : PySem.W.plainGet K CPlainBook Str.empty = true)
    (pb_hd : PySem.W.hasDictIn K CPlainBook = true)
    (pb_po : PySem.W.plainOver K CPlainBook = true)
    (pb_sa : PySem.W.findIn K (.ref CPlainBook) "__setattr__" = some (some (.builtin "object.__setattr__")))
    (pb_n1 : PySem.W.findIn K (.ref CPlainBook) "states" = some none)
    (pb_n2 : PySem.W.findIn K (.ref CPlainBook) "first" = some none)
    (pb_n3 : PySem.W.findIn K (.ref CPlainBook) "choices" = some none)
    (pb_n4 : PySem.W.findIn K (.ref CPlainBook) "_options" = some none)
    (pb_mk : PySem.W.makesIn K CPlainBook = true)
    (pb_kp : PySem.W.keepIn K (.ref CPlainBook) = true)
    (a_initPlainBook : PySem.W.findIn K (.ref CPlainBook) "__init__" = some (some (.ref f_initPlainBook)))
    (i_initPlainBook : PySem.W.isFn K (.ref f_initPlainBook) = true)
    (l_initPlainBook : K.lookup f_initPlainBook = some ⟨oc_initPlainBook, od_initPlainBook, .func (PySem.W.fnOf "__init__" "PlainBook.__init__" (defArgs s_PlainBook___init__) (defBody s_PlainBook___init__) (defScope s_PlainBook___init__) .none kV_initPlainBook dc_initPlainBook pm_initPlainBook an_initPlainBook cd_initPlainBook ct_initPlainBook), sl_initPlainBook⟩)
    (c_initPlainBook : PySem.W.codeIn K cd_initPlainBook "PlainBook.__init__" = true)
    (k_initPlainBook : PySem.W.keepIn K (.ref f_initPlainBook) = true)
    (xBB : PySem.W.excIn K CBadBook [.type "ValueError", .type "Exception", .type "BaseException", .type "object"] "ValueError.__new__" = true)
    (nmBadShare : PySem.W.subIn K (.ref CBadMove) (.ref CBadShare) = some false)
    (nxBadShare : CBadMove ≠ CBadShare)
    (nmBadText : PySem.W.subIn K (.ref CBadMove) (.ref CBadText) = some false)
    (nxBadText : CBadMove ≠ CBadText)
    (nmBadBook : PySem.W.subIn K (.ref CBadMove) (.ref CBadBook) = some false)
    (nxBadBook : CBadMove ≠ CBadBook)
    (nmBadProgram : PySem.W.subIn K (.ref CBadMove) (.ref CBadProgram) = some false)
    (nxBadProgram : CBadMove ≠ CBadProgram)
    (nmBadPlan : PySem.W.subIn K (.ref CBadMove) (.ref CBadPlan) = some false)
    (nxBadPlan : CBadMove ≠ CBadPlan)
    (nmUnfit : PySem.W.subIn K (.ref CBadMove) (.ref CUnfit) = some false)
    (nxUnfit : CBadMove ≠ CUnfit)
    (nmTooLarge : PySem.W.subIn K (.ref CBadMove) (.ref CTooLarge) = some false)
    (nxTooLarge : CBadMove ≠ CTooLarge)
    (nmBadEdit : PySem.W.subIn K (.ref CBadMove) (.ref CBadEdit) = some false)
    (nxBadEdit : CBadMove ≠ CBadEdit)
    (upM : PySem.W.subIn K (.ref CBadMove) (.ref COddsError) = some true)
    (upVM : PySem.W.subIn K (.ref CBadMove) (.type "ValueError") = some true)
    (selfM : PySem.W.subIn K (.ref CBadMove) (.ref CBadMove) = some true)
    (lID : K.lookup CIDLE = some ⟨.type "tuple", dID, .seq #[] nID, slID⟩)
    (lCF : K.lookup CCODE_FORMS = some ⟨.type "dict", none, .dict #[⟨PyData.keyHash w.params "read", .str "read" tcf0, .ref acf0⟩, ⟨PyData.keyHash w.params "write", .str "write" tcf1, .ref acf1⟩, ⟨PyData.keyHash w.params "swap", .str "swap" tcf2, .ref acf2⟩, ⟨PyData.keyHash w.params "test", .str "test" tcf3, .ref acf3⟩, ⟨PyData.keyHash w.params "count", .str "count" tcf4, .ref acf4⟩, ⟨PyData.keyHash w.params "use", .str "use" tcf5, .ref acf5⟩, ⟨PyData.keyHash w.params "set", .str "set" tcf6, .ref acf6⟩, ⟨PyData.keyHash w.params "copy", .str "copy" tcf7, .ref acf7⟩, ⟨PyData.keyHash w.params "add", .str "add" tcf8, .ref acf8⟩, ⟨PyData.keyHash w.params "less", .str "less" tcf9, .ref acf9⟩, ⟨PyData.keyHash w.params "same", .str "same" tcf10, .ref acf10⟩, ⟨PyData.keyHash w.params "jump", .str "jump" tcf11, .ref acf11⟩, ⟨PyData.keyHash w.params "answer", .str "answer" tcf12, .ref acf12⟩] nCF, #[]⟩)
    (noCF : (CCODE_FORMS == sysModules) = false)
    (lCR : K.lookup acf12 = some ⟨.type "tuple", dCR, .seq #[.str "r" tcr] nCR, slCR⟩)
    (aBBadMove : PySem.W.findIn K (.ref CBadMove) "__init__" = some (some (.ref fBBadMove)))
    (tyBBadMove : PySem.W.typeIn K (.ref fBBadMove) = some (.type "function"))
    (lBBadMove : K.lookup fBBadMove = some ⟨ocBBadMove, odBBadMove, .func (PySem.W.fnX "__init__" "BadMove.__init__" (defArgs s_BadMove___init__) (defBody s_BadMove___init__) (defScope s_BadMove___init__) [("__class__", ccBBadMove)] .none kVBBadMove doBBadMove pmBBadMove anBBadMove (.ref cdBBadMove) ctBBadMove), slBBadMove⟩)
    (cBBadMove : PySem.W.codeIn K (.ref cdBBadMove) "BadMove.__init__" = true)
    (ldBBadMove : K.lookup cdBBadMove = some ⟨oc2BBadMove, dc2BBadMove, .fields vsBBadMove, sl2BBadMove⟩)
    (vBBadMove : vsBBadMove[2]? = some (.str fileBBadMove tfBBadMove))
    (pfBBadMove : ((P.main.file : Str) == fileBBadMove) = true)
    (lcBBadMove : K.lookup ccBBadMove = some ⟨oc3BBadMove, dc3BBadMove, .cell (some (.ref CBadMove)), sl3BBadMove⟩)
    (pt_super : (P.main.scope.names.lookup ("super" : Str)).isSome = false)
    (z_super : PySem.W.nsIn K mainGlobals "super" = some none)
    (z_any : PySem.W.nsIn K cStatics "thirdparty.any" = some none)
    (suBBadMove : PySem.W.ks_superIn K CBadMove CBadMove "__init__" = some (some (.builtin "ValueError.__init__")))
    (noBBadMove : PySem.W.findIn K (.ref CBadMove) "index" = some none)
    (saBBadMove : PySem.W.findIn K (.ref CBadMove) "__setattr__" = some (some (.builtin "object.__setattr__")))
    (clBBadMove : K.lookup CBadMove = some (excClassObj nmBBadMove qBBadMove CBadMove NBBadMove bsBBadMove bmBBadMove true snBBadMove subBBadMove abBBadMove colBBadMove ddBBadMove k0BBadMove k1BBadMove k2BBadMove k3BBadMove k5BBadMove "ValueError.__new__"))
    (rvBBadMove : PySem.HandSPX.refsVE bmBBadMove = true)
    (g_LETTERS : PySem.W.nsIn K mainGlobals "LETTERS" = some (some (.str "abcdefghijklmnopqrstuvwxyz" tk_LETTERS)))
    (g_DIGITS : PySem.W.nsIn K mainGlobals "DIGITS" = some (some (.str "0123456789" tk_DIGITS)))
    (g_MOST_NAME_CHARACTERS : PySem.W.nsIn K mainGlobals "MOST_NAME_CHARACTERS" = some (some (.int 20 tk_MOST_NAME_CHARACTERS)))
    (g_MOST_STATES : PySem.W.nsIn K mainGlobals "MOST_STATES" = some (some (.int 600 tk_MOST_STATES)))
    (g_MOST_OPTIONS : PySem.W.nsIn K mainGlobals "MOST_OPTIONS" = some (some (.int 4 tk_MOST_OPTIONS)))
    (g_VALUE_LIMIT : PySem.W.nsIn K mainGlobals "VALUE_LIMIT" = some (some (.int 8 tk_VALUE_LIMIT)))
    (g_LEAST_MODULUS : PySem.W.nsIn K mainGlobals "LEAST_MODULUS" = some (some (.int 2 tk_LEAST_MODULUS)))
    (g_MOST_MODULUS : PySem.W.nsIn K mainGlobals "MOST_MODULUS" = some (some (.int 8 tk_MOST_MODULUS)))
    (g_MOST_REGISTERS : PySem.W.nsIn K mainGlobals "MOST_REGISTERS" = some (some (.int 16 tk_MOST_REGISTERS)))
    (g_MOST_ROWS : PySem.W.nsIn K mainGlobals "MOST_ROWS" = some (some (.int 8 tk_MOST_ROWS)))
    (g_MOST_CELLS : PySem.W.nsIn K mainGlobals "MOST_CELLS" = some (some (.int 16 tk_MOST_CELLS)))
    (g_MOST_PARTS : PySem.W.nsIn K mainGlobals "MOST_PARTS" = some (some (.int 4 tk_MOST_PARTS)))
    (g_MOST_PORTS : PySem.W.nsIn K mainGlobals "MOST_PORTS" = some (some (.int 8 tk_MOST_PORTS)))
    (g_MOST_ITEMS : PySem.W.nsIn K mainGlobals "MOST_ITEMS" = some (some (.int 6 tk_MOST_ITEMS)))
    (g_MOST_DEEDS : PySem.W.nsIn K mainGlobals "MOST_DEEDS" = some (some (.int 24 tk_MOST_DEEDS)))
    (g_MOST_LINES : PySem.W.nsIn K mainGlobals "MOST_LINES" = some (some (.int 160 tk_MOST_LINES)))
    (g_PLACE_LIMIT : PySem.W.nsIn K mainGlobals "PLACE_LIMIT" = some (some (.int 8 tk_PLACE_LIMIT)))
    (g_NAME_LETTER : PySem.W.nsIn K mainGlobals "NAME_LETTER" = some (some (.str "d" tk_NAME_LETTER)))
    (g_ASKED : PySem.W.nsIn K mainGlobals "ASKED" = some (some (.int 0 tk_ASKED)))
    (g_DONE : PySem.W.nsIn K mainGlobals "DONE" = some (some (.int 1 tk_DONE))) :
    ∃ fd : FuncData, (∀ (s : Shared) (v : Value), BindsTo s fd ⟨[v], []⟩ [("script", v)]) ∧ ∀ base : Heap, K.In base → base.Ns mainGlobals mg → FnOk P w K mg base CX0 9 fa fd ["script"] (spLaw K) := by
  have e := hfa.symm.trans (PySem.W.mg_of X G a_law)
  cases e
  have T : Txt P w K mg CPlainBook CCodeBook CStock COddsError CBadShare CBadText CBadBook CBadMove CBadProgram CBadPlan CUnfit CTooLarge CBadEdit CCODE_FORMS CIDLE := {
  d_l_int := df_of X G a_l_int l_l_int c_l_int k_l_int
  d_l_pool := df_of X G a_l_pool l_l_pool c_l_pool k_l_pool
  d_l_draw := df_of X G a_l_draw l_l_draw c_l_draw k_l_draw
  d_law := df_of X G a_law l_law c_law k_law
  d_is_name := df_of X G a_is_name l_is_name c_is_name k_is_name
  d_check_choice := df_of X G a_check_choice l_check_choice c_check_choice k_check_choice
  d_grouped_options := df_of X G a_grouped_options l_grouped_options c_grouped_options k_grouped_options
  d_l_same := df_of X G a_l_same l_l_same c_l_same k_l_same
  d_done_mark := df_of X G a_done_mark l_done_mark c_done_mark k_done_mark
  d_is_asked := df_of X G a_is_asked l_is_asked c_is_asked k_is_asked
  d_with_mark := df_of X G a_with_mark l_with_mark c_with_mark k_with_mark
  d_take_leads := df_of X G a_take_leads l_take_leads c_take_leads k_take_leads
  d_takes_of := df_of X G a_takes_of l_takes_of c_takes_of k_takes_of
  d_taken := df_of X G a_taken l_taken c_taken k_taken
  d_form_of := df_of X G a_form_of l_form_of c_form_of k_form_of
  d_check_code := df_of X G a_check_code l_check_code c_check_code k_check_code
  d_check_number := df_of X G a_check_number l_check_number c_check_number k_check_number
  d_check_names := df_of X G a_check_names l_check_names c_check_names k_check_names
  d_check_rows := df_of X G a_check_rows l_check_rows c_check_rows k_check_rows
  d_check_parts := df_of X G a_check_parts l_check_parts c_check_parts k_check_parts
  d_check_ports := df_of X G a_check_ports l_check_ports c_check_ports k_check_ports
  d_check_instruction := df_of X G a_check_instruction l_check_instruction c_check_instruction k_check_instruction
  d_check_course := df_of X G a_check_course l_check_course c_check_course k_check_course
  d_has_fused_ring := df_of X G a_has_fused_ring l_has_fused_ring c_has_fused_ring k_has_fused_ring
  d_copied_menu := df_of X G a_copied_menu l_copied_menu c_copied_menu k_copied_menu
  d_copied_lines := df_of X G a_copied_lines l_copied_lines c_copied_lines k_copied_lines
  d_first_plain := df_of X G a_first_plain l_first_plain c_first_plain k_first_plain
  d_l_plain := df_of X G a_l_plain l_l_plain c_l_plain k_l_plain
  d_l_code := df_of X G a_l_code l_l_code c_l_code k_l_code
  d_l_real_plain := df_of X G a_l_real_plain l_l_real_plain c_l_real_plain k_l_real_plain
  d_l_real_code := df_of X G a_l_real_code l_l_real_code c_l_real_code k_l_real_code
  d_l_real := df_of X G a_l_real l_l_real c_l_real k_l_real
  d_l_names := df_of X G a_l_names l_l_names c_l_names k_l_names
  d_l_things := df_of X G a_l_things l_l_things c_l_things k_l_things
  d_l_choices := df_of X G a_l_choices l_l_choices c_l_choices k_l_choices
  d_l_stock := df_of X G a_l_stock l_l_stock c_l_stock k_l_stock
  d_l_state := df_of X G a_l_state l_l_state c_l_state k_l_state
  d_l_options := df_of X G a_l_options l_l_options c_l_options k_l_options
  d_l_takes := df_of X G a_l_takes l_l_takes c_l_takes k_l_takes
  d_l_taken := df_of X G a_l_taken l_l_taken c_l_taken k_l_taken
  d_l_take := df_of X G a_l_take l_l_take c_l_take k_l_take
  d_l_state_holds := df_of X G a_l_state_holds l_l_state_holds c_l_state_holds k_l_state_holds
  n_isinstance := PySem.W.mg_none_of X G z_isinstance
  n_int := PySem.W.mg_none_of X G z_int
  n_bool := PySem.W.mg_none_of X G z_bool
  n_str := PySem.W.mg_none_of X G z_str
  n_tuple := PySem.W.mg_none_of X G z_tuple
  n_list := PySem.W.mg_none_of X G z_list
  n_len := PySem.W.mg_none_of X G z_len
  n_abs := PySem.W.mg_none_of X G z_abs
  n_max := PySem.W.mg_none_of X G z_max
  n_min := PySem.W.mg_none_of X G z_min
  n_range := PySem.W.mg_none_of X G z_range
  n_ValueError := PySem.W.mg_none_of X G z_ValueError
  n_enumerate := PySem.W.mg_none_of X G z_enumerate
  n_set := PySem.W.mg_none_of X G z_set
  n_dict := PySem.W.mg_none_of X G z_dict
  n_sum := PySem.W.mg_none_of X G z_sum
  n_sorted := PySem.W.mg_none_of X G z_sorted
  n_zip := PySem.W.mg_none_of X G z_zip
  d_PlainBook_options := dm_of a_PlainBook_options i_PlainBook_options l_PlainBook_options c_PlainBook_options k_PlainBook_options
  e_OddsError := ⟨PySem.W.mg_of X G gCOddsError, kCOddsError, bCOddsError, tCOddsError, ⟨gaCOddsError, gbCOddsError, bCOddsError, hdCOddsError, clCOddsError, hn0, ht0, mrCOddsError⟩⟩
  e_BadShare := ⟨PySem.W.mg_of X G gCBadShare, kCBadShare, bCBadShare, tCBadShare, ⟨gaCBadShare, gbCBadShare, bCBadShare, hdCBadShare, clCBadShare, hn0, ht0, mrCBadShare⟩⟩
  e_BadText := ⟨PySem.W.mg_of X G gCBadText, kCBadText, bCBadText, tCBadText, ⟨gaCBadText, gbCBadText, bCBadText, hdCBadText, clCBadText, hn0, ht0, mrCBadText⟩⟩
  e_BadBook := ⟨PySem.W.mg_of X G gCBadBook, kCBadBook, bCBadBook, tCBadBook, ⟨gaCBadBook, gbCBadBook, bCBadBook, hdCBadBook, clCBadBook, hn0, ht0, mrCBadBook⟩⟩
  e_BadMove := ⟨PySem.W.mg_of X G gCBadMove, kCBadMove, bCBadMove, tCBadMove, ⟨gaCBadMove, gbCBadMove, bCBadMove, hdCBadMove, clCBadMove, hn0, ht0, mrCBadMove⟩⟩
  e_BadProgram := ⟨PySem.W.mg_of X G gCBadProgram, kCBadProgram, bCBadProgram, tCBadProgram, ⟨gaCBadProgram, gbCBadProgram, bCBadProgram, hdCBadProgram, clCBadProgram, hn0, ht0, mrCBadProgram⟩⟩
  e_BadPlan := ⟨PySem.W.mg_of X G gCBadPlan, kCBadPlan, bCBadPlan, tCBadPlan, ⟨gaCBadPlan, gbCBadPlan, bCBadPlan, hdCBadPlan, clCBadPlan, hn0, ht0, mrCBadPlan⟩⟩
  e_Unfit := ⟨PySem.W.mg_of X G gCUnfit, kCUnfit, bCUnfit, tCUnfit, ⟨gaCUnfit, gbCUnfit, bCUnfit, hdCUnfit, clCUnfit, hn0, ht0, mrCUnfit⟩⟩
  e_TooLarge := ⟨PySem.W.mg_of X G gCTooLarge, kCTooLarge, bCTooLarge, tCTooLarge, ⟨gaCTooLarge, gbCTooLarge, bCTooLarge, hdCTooLarge, clCTooLarge, hn0, ht0, mrCTooLarge⟩⟩
  e_BadEdit := ⟨PySem.W.mg_of X G gCBadEdit, kCBadEdit, bCBadEdit, tCBadEdit, ⟨gaCBadEdit, gbCBadEdit, bCBadEdit, hdCBadEdit, clCBadEdit, hn0, ht0, mrCBadEdit⟩⟩
  cb := ⟨PySem.W.mg_of X G gCCodeBook, ⟨cb_pg, cb_hd, cb_po, cb_sa⟩, cb_n1, cb_n2, cb_n3, cb_n4, cb_n5, cb_n6, cb_n7⟩
  d_initCodeBook := ⟨f_initCodeBook, _, ⟨cb_mk, a_initCodeBook, i_initCodeBook, cb_kp⟩, fun_mk l_initCodeBook c_initCodeBook k_initCodeBook⟩
  sk := ⟨PySem.W.mg_of X G gCStock, ⟨sk_pg, sk_hd, sk_po, sk_sa⟩, sk_n1, sk_n2⟩
  d_initStock := ⟨f_initStock, _, ⟨sk_mk, a_initStock, i_initStock, sk_kp⟩, fun_mk l_initStock c_initStock k_initStock⟩
  pb := ⟨PySem.W.mg_of X G gCPlainBook, ⟨pb_pg, pb_hd, pb_po, pb_sa⟩, pb_n1, pb_n2, pb_n3, pb_n4⟩
  d_initPlainBook := ⟨f_initPlainBook, _, ⟨pb_mk, a_initPlainBook, i_initPlainBook, pb_kp⟩, fun_mk l_initPlainBook c_initPlainBook k_initPlainBook⟩
  x_BadBook := xBB
  nm_BadShare := ⟨nmBadShare, nxBadShare⟩
  nm_BadText := ⟨nmBadText, nxBadText⟩
  nm_BadBook := ⟨nmBadBook, nxBadBook⟩
  nm_BadProgram := ⟨nmBadProgram, nxBadProgram⟩
  nm_BadPlan := ⟨nmBadPlan, nxBadPlan⟩
  nm_Unfit := ⟨nmUnfit, nxUnfit⟩
  nm_TooLarge := ⟨nmTooLarge, nxTooLarge⟩
  nm_BadEdit := ⟨nmBadEdit, nxBadEdit⟩
  upM := upM
  upVM := upVM
  selfM := selfM
  g_IDLE := ⟨_, PySem.W.mg_of X G gCIDLE, rfl⟩
  idle := fun H => .inr ⟨_, _, nID, lID, rfl, rfl, by show 0 ≤ sizeLine; decide, .nil⟩
  g_CODE_FORMS := ⟨_, PySem.W.mg_of X G gCCODE_FORMS, rfl⟩
  cf := ⟨List.map rowV [("read", tcf0, acf0), ("write", tcf1, acf1), ("swap", tcf2, acf2), ("test", tcf3, acf3), ("count", tcf4, acf4), ("use", tcf5, acf5), ("set", tcf6, acf6), ("copy", tcf7, acf7), ("add", tcf8, acf8), ("less", tcf9, acf9), ("same", tcf10, acf10), ("jump", tcf11, acf11), ("answer", tcf12, acf12)], ownD_of [("read", tcf0, acf0), ("write", tcf1, acf1), ("swap", tcf2, acf2), ("test", tcf3, acf3), ("count", tcf4, acf4), ("use", tcf5, acf5), ("set", tcf6, acf6), ("copy", tcf7, acf7), ("add", tcf8, acf8), ("less", tcf9, acf9), ("same", tcf10, acf10), ("jump", tcf11, acf11), ("answer", tcf12, acf12)] lCF noCF (by show 13 ≤ sizeLine; decide) (by show (["read", "write", "swap", "test", "count", "use", "set", "copy", "add", "less", "same", "jump", "answer"] : List Str).Nodup; decide +kernel), (by show 13 < 100; decide), acf12, val_row 12 [("read", tcf0, acf0), ("write", tcf1, acf1), ("swap", tcf2, acf2), ("test", tcf3, acf3), ("count", tcf4, acf4), ("use", tcf5, acf5), ("set", tcf6, acf6), ("copy", tcf7, acf7), ("add", tcf8, acf8), ("less", tcf9, acf9), ("same", tcf10, acf10), ("jump", tcf11, acf11), ("answer", tcf12, acf12)] ["read", "write", "swap", "test", "count", "use", "set", "copy", "add", "less", "same", "jump"] rfl rfl (by decide +kernel), fun H => .inr ⟨_, _, nCR, lCR, rfl, rfl, by show 1 ≤ sizeLine; decide, .cons ⟨_, rfl⟩ .nil⟩⟩
  sup_BadMove := ⟨fBBadMove, _, ⟨⟨⟨_, _, _, _, _, _, _, _, _, _, _, _, _, _, _, clBBadMove, rvBBadMove⟩, saBBadMove, bCBadMove, tCBadMove, kCBadMove⟩, ⟨_, _, _, _, _, _, _, _, _, _, _, _, _, _, _, _, _, _, _, rfl, lBBadMove, cBBadMove, ldBBadMove, vBBadMove, pfBBadMove, lcBBadMove⟩, pt_super, PySem.W.mg_none_of X G z_super, z_any, suBBadMove, noBBadMove, aBBadMove, tyBBadMove⟩⟩
  xf_BadMove := ⟨gaCBadMove, gbCBadMove, bCBadMove, hdCBadMove⟩
  xfn_BadMove := noBBadMove
  g_LETTERS := ⟨_, PySem.W.mg_of X G g_LETTERS, ⟨_, rfl⟩⟩
  g_DIGITS := ⟨_, PySem.W.mg_of X G g_DIGITS, ⟨_, rfl⟩⟩
  g_MOST_NAME_CHARACTERS := ⟨_, PySem.W.mg_of X G g_MOST_NAME_CHARACTERS, ⟨_, rfl⟩⟩
  g_MOST_STATES := ⟨_, PySem.W.mg_of X G g_MOST_STATES, ⟨_, rfl⟩⟩
  g_MOST_OPTIONS := ⟨_, PySem.W.mg_of X G g_MOST_OPTIONS, ⟨_, rfl⟩⟩
  g_VALUE_LIMIT := ⟨_, PySem.W.mg_of X G g_VALUE_LIMIT, ⟨_, rfl⟩⟩
  g_LEAST_MODULUS := ⟨_, PySem.W.mg_of X G g_LEAST_MODULUS, ⟨_, rfl⟩⟩
  g_MOST_MODULUS := ⟨_, PySem.W.mg_of X G g_MOST_MODULUS, ⟨_, rfl⟩⟩
  g_MOST_REGISTERS := ⟨_, PySem.W.mg_of X G g_MOST_REGISTERS, ⟨_, rfl⟩⟩
  g_MOST_ROWS := ⟨_, PySem.W.mg_of X G g_MOST_ROWS, ⟨_, rfl⟩⟩
  g_MOST_CELLS := ⟨_, PySem.W.mg_of X G g_MOST_CELLS, ⟨_, rfl⟩⟩
  g_MOST_PARTS := ⟨_, PySem.W.mg_of X G g_MOST_PARTS, ⟨_, rfl⟩⟩
  g_MOST_PORTS := ⟨_, PySem.W.mg_of X G g_MOST_PORTS, ⟨_, rfl⟩⟩
  g_MOST_ITEMS := ⟨_, PySem.W.mg_of X G g_MOST_ITEMS, ⟨_, rfl⟩⟩
  g_MOST_DEEDS := ⟨_, PySem.W.mg_of X G g_MOST_DEEDS, ⟨_, rfl⟩⟩
  g_MOST_LINES := ⟨_, PySem.W.mg_of X G g_MOST_LINES, ⟨_, rfl⟩⟩
  g_PLACE_LIMIT := ⟨_, PySem.W.mg_of X G g_PLACE_LIMIT, ⟨_, rfl⟩⟩
  g_NAME_LETTER := ⟨_, PySem.W.mg_of X G g_NAME_LETTER, ⟨_, rfl⟩⟩
  g_ASKED := ⟨_, PySem.W.mg_of X G g_ASKED, ⟨_, rfl⟩⟩
  g_DONE := ⟨_, PySem.W.mg_of X G g_DONE, ⟨_, rfl⟩⟩ }
  exact ⟨_, fun s v => .of_eq rfl, fun base _ _ => ok_law T (fun_mk (st := s_law) l_law c_law k_law)⟩
theorem walk {l : PySem.W.OpenLaw} {q : Program} {loose : List Str} {XP : (Str → Option Value) → Heap → Prop} {YP : World → Heap → Prop} {d : DefRec} {K : Params → PySem.W.Frag} (hn : l.most = some 63) (hdf : d.params.defaults = [])
    (hY : ∀ (w : World) (h : Heap), YP w h → (K w.params).In h)
    (F : ∀ (w : World) (mg : Str → Option Value) (fa : Addr) (h : Heap), (K w.params).In h → h.Ns mainGlobals mg → mg d.name = some (.ref fa) →
      ∃ fd : FuncData, (∀ (s : Shared) (u : Value), BindsTo s fd ⟨[u], []⟩ [("script", u)]) ∧ ∀ base : Heap, (K w.params).In base → base.Ns mainGlobals mg → FnOk l.prog w (K w.params) mg base CX0 9 fa fd ["script"] (spLaw (K w.params))) :
    PySem.W.WalkO q loose XP YP l.row.toRowW d [] (fun f vs => PySem.call f vs) :=
  L2.walk_of (n := 63) (k := 9) (x := "script") (CX := fun _ => CX0) (sp := fun w => spLaw (K w.params)) hn (by decide) hdf ⟨rfl, by decide, by decide⟩ hY F (fun w H a ns hl hO hS => ⟨a, ns, rfl, Scr.of hO hS, fun _ => rfl⟩) fun _ _ _ _ _ z => z
end My

open PySem PySem.W PyProof.Rows in
set_option maxRecDepth 100000 in
set_option maxHeartbeats 0 in
theorem PySem.Challenge.cw_oddskept_k18_takes_holds : PySem.Challenge.rw_oddskept_k18_takes.Holds := by
  w_on; o_law; k_head; (case hw => w_witness2)
  k_fill
  refine My.walk (l := PySem.Challenge.rw_oddskept_k18_takes) rfl rfl (fun w h Y => PySem.W.kIn_of Y) ?F
  case F =>
    intro w mg fa h KX G hmg
    refine' My.mk_all KX G hmg ?gCPlainBook ?gCCodeBook ?gCStock ?gCOddsError ?gCBadShare ?gCBadText ?gCBadBook ?gCBadMove ?gCBadProgram ?gCBadPlan ?gCUnfit ?gCTooLarge ?gCBadEdit ?gCCODE_FORMS ?gCIDLE ?hn0 ?ht0 ?a_l_int ?l_l_int ?c_l_int ?k_l_int ?a_l_pool ?l_l_pool ?c_l_pool ?k_l_pool ?a_l_draw ?l_l_draw ?c_l_draw ?k_l_draw ?a_law ?l_law ?c_law ?k_law ?a_is_name ?l_is_name ?c_is_name ?k_is_name ?a_check_choice ?l_check_choice ?c_check_choice ?k_check_choice ?a_grouped_options ?l_grouped_options ?c_grouped_options ?k_grouped_options ?a_l_same ?l_l_same ?c_l_same ?k_l_same ?a_done_mark ?l_done_mark ?c_done_mark ?k_done_mark ?a_is_asked ?l_is_asked ?c_is_asked ?k_is_asked ?a_with_mark ?l_with_mark ?c_with_mark ?k_with_mark ?a_take_leads ?l_take_leads ?c_take_leads ?k_take_leads ?a_takes_of ?l_takes_of ?c_takes_of ?k_takes_of ?a_taken ?l_taken ?c_taken ?k_taken ?a_form_of ?l_form_of ?c_form_of ?k_form_of ?a_check_code ?l_check_code ?c_check_code ?k_check_code ?a_check_number ?l_check_number ?c_check_number ?k_check_number ?a_check_names ?l_check_names ?c_check_names ?k_check_names ?a_check_rows ?l_check_rows ?c_check_rows ?k_check_rows ?a_check_parts ?l_check_parts ?c_check_parts ?k_check_parts ?a_check_ports ?l_check_ports ?c_check_ports ?k_check_ports ?a_check_instruction ?l_check_instruction ?c_check_instruction ?k_check_instruction ?a_check_course ?l_check_course ?c_check_course ?k_check_course ?a_has_fused_ring ?l_has_fused_ring ?c_has_fused_ring ?k_has_fused_ring ?a_copied_menu ?l_copied_menu ?c_copied_menu ?k_copied_menu ?a_copied_lines ?l_copied_lines ?c_copied_lines ?k_copied_lines ?a_first_plain ?l_first_plain ?c_first_plain ?k_first_plain ?a_l_plain ?l_l_plain ?c_l_plain ?k_l_plain ?a_l_code ?l_l_code ?c_l_code ?k_l_code ?a_l_real_plain ?l_l_real_plain ?c_l_real_plain ?k_l_real_plain ?a_l_real_code ?l_l_real_code ?c_l_real_code ?k_l_real_code ?a_l_real ?l_l_real ?c_l_real ?k_l_real ?a_l_names ?l_l_names ?c_l_names ?k_l_names ?a_l_things ?l_l_things ?c_l_things ?k_l_things ?a_l_choices ?l_l_choices ?c_l_choices ?k_l_choices ?a_l_stock ?l_l_stock ?c_l_stock ?k_l_stock ?a_l_state ?l_l_state ?c_l_state ?k_l_state ?a_l_options ?l_l_options ?c_l_options ?k_l_options ?a_l_takes ?l_l_takes ?c_l_takes ?k_l_takes ?a_l_taken ?l_l_taken ?c_l_taken ?k_l_taken ?a_l_take ?l_l_take ?c_l_take ?k_l_take ?a_l_state_holds ?l_l_state_holds ?c_l_state_holds ?k_l_state_holds ?z_isinstance ?z_int ?z_bool ?z_str ?z_tuple ?z_list ?z_len ?z_abs ?z_max ?z_min ?z_range ?z_ValueError ?z_enumerate ?z_set ?z_dict ?z_sum ?z_sorted ?z_zip ?a_PlainBook_options ?i_PlainBook_options ?l_PlainBook_options ?c_PlainBook_options ?k_PlainBook_options ?kCOddsError ?bCOddsError ?tCOddsError ?gaCOddsError ?gbCOddsError ?hdCOddsError ?clCOddsError ?mrCOddsError ?kCBadShare ?bCBadShare ?tCBadShare ?gaCBadShare ?gbCBadShare ?hdCBadShare ?clCBadShare ?mrCBadShare ?kCBadText ?bCBadText ?tCBadText ?gaCBadText ?gbCBadText ?hdCBadText ?clCBadText ?mrCBadText ?kCBadBook ?bCBadBook ?tCBadBook ?gaCBadBook ?gbCBadBook ?hdCBadBook ?clCBadBook ?mrCBadBook ?kCBadMove ?bCBadMove ?tCBadMove ?gaCBadMove ?gbCBadMove ?hdCBadMove ?clCBadMove ?mrCBadMove ?kCBadProgram ?bCBadProgram ?tCBadProgram ?gaCBadProgram ?gbCBadProgram ?hdCBadProgram ?clCBadProgram ?mrCBadProgram ?kCBadPlan ?bCBadPlan ?tCBadPlan ?gaCBadPlan ?gbCBadPlan ?hdCBadPlan ?clCBadPlan ?mrCBadPlan ?kCUnfit ?bCUnfit ?tCUnfit ?gaCUnfit ?gbCUnfit ?hdCUnfit ?clCUnfit ?mrCUnfit ?kCTooLarge ?bCTooLarge ?tCTooLarge ?gaCTooLarge ?gbCTooLarge ?hdCTooLarge ?clCTooLarge ?mrCTooLarge ?kCBadEdit ?bCBadEdit ?tCBadEdit ?gaCBadEdit ?gbCBadEdit ?hdCBadEdit ?clCBadEdit ?mrCBadEdit ?cb_pg ?cb_hd ?cb_po ?cb_sa ?cb_n1 ?cb_n2 ?cb_n3 ?cb_n4 ?cb_n5 ?cb_n6 ?cb_n7 ?cb_mk ?cb_kp ?a_initCodeBook ?i_initCodeBook ?l_initCodeBook ?c_initCodeBook ?k_initCodeBook ?sk_pg ?sk_hd ?sk_po ?sk_sa ?sk_n1 ?sk_n2 ?sk_mk ?sk_kp ?a_initStock ?i_initStock ?l_initStock ?c_initStock ?k_initStock ?pb_pg ?pb_hd ?pb_po ?pb_sa ?pb_n1 ?pb_n2 ?pb_n3 ?pb_n4 ?pb_mk ?pb_kp ?a_initPlainBook ?i_initPlainBook ?l_initPlainBook ?c_initPlainBook ?k_initPlainBook ?xBB ?nmBadShare ?nxBadShare ?nmBadText ?nxBadText ?nmBadBook ?nxBadBook ?nmBadProgram ?nxBadProgram ?nmBadPlan ?nxBadPlan ?nmUnfit ?nxUnfit ?nmTooLarge ?nxTooLarge ?nmBadEdit ?nxBadEdit ?upM ?upVM ?selfM ?lID ?lCF ?noCF ?lCR ?aBBadMove ?tyBBadMove ?lBBadMove ?cBBadMove ?ldBBadMove ?vBBadMove ?pfBBadMove ?lcBBadMove ?pt_super ?z_super ?z_any ?suBBadMove ?noBBadMove ?saBBadMove ?clBBadMove ?rvBBadMove ?g_LETTERS ?g_DIGITS ?g_MOST_NAME_CHARACTERS ?g_MOST_STATES ?g_MOST_OPTIONS ?g_VALUE_LIMIT ?g_LEAST_MODULUS ?g_MOST_MODULUS ?g_MOST_REGISTERS ?g_MOST_ROWS ?g_MOST_CELLS ?g_MOST_PARTS ?g_MOST_PORTS ?g_MOST_ITEMS ?g_MOST_DEEDS ?g_MOST_LINES ?g_PLACE_LIMIT ?g_NAME_LETTER ?g_ASKED ?g_DONE
    (case gCPlainBook => k_is)
    (case gCCodeBook => k_is)
    (case gCStock => k_is)
    (case gCOddsError => k_is)
    (case gCBadShare => k_is)
    (case gCBadText => k_is)
    (case gCBadBook => k_is)
    (case gCBadMove => k_is)
    (case gCBadProgram => k_is)
    (case gCBadPlan => k_is)
    (case gCUnfit => k_is)
    (case gCTooLarge => k_is)
    (case gCBadEdit => k_is)
    (case gCCODE_FORMS => k_is)
    (case gCIDLE => k_is)
    (case hn0 => k_is)
    (case ht0 => k_is)
    (case a_l_int => k_is)
    (case l_l_int => k_is)
    (case c_l_int => k_is)
    (case k_l_int => k_is)
    (case a_l_pool => k_is)
    (case l_l_pool => k_is)
    (case c_l_pool => k_is)
    (case k_l_pool => k_is)
    (case a_l_draw => k_is)
    (case l_l_draw => k_is)
    (case c_l_draw => k_is)
    (case k_l_draw => k_is)
    (case a_law => k_is)
    (case l_law => k_is)
    (case c_law => k_is)
    (case k_law => k_is)
    (case a_is_name => k_is)
    (case l_is_name => k_is)
    (case c_is_name => k_is)
    (case k_is_name => k_is)
    (case a_check_choice => k_is)
    (case l_check_choice => k_is)
    (case c_check_choice => k_is)
    (case k_check_choice => k_is)
    (case a_grouped_options => k_is)
    (case l_grouped_options => k_is)
    (case c_grouped_options => k_is)
    (case k_grouped_options => k_is)
    (case a_l_same => k_is)
    (case l_l_same => k_is)
    (case c_l_same => k_is)
    (case k_l_same => k_is)
    (case a_done_mark => k_is)
    (case l_done_mark => k_is)
    (case c_done_mark => k_is)
    (case k_done_mark => k_is)
    (case a_is_asked => k_is)
    (case l_is_asked => k_is)
    (case c_is_asked => k_is)
    (case k_is_asked => k_is)
    (case a_with_mark => k_is)
    (case l_with_mark => k_is)
    (case c_with_mark => k_is)
    (case k_with_mark => k_is)
    (case a_take_leads => k_is)
    (case l_take_leads => k_is)
    (case c_take_leads => k_is)
    (case k_take_leads => k_is)
    (case a_takes_of => k_is)
    (case l_takes_of => k_is)
    (case c_takes_of => k_is)
    (case k_takes_of => k_is)
    (case a_taken => k_is)
    (case l_taken => k_is)
    (case c_taken => k_is)
    (case k_taken => k_is)
    (case a_form_of => k_is)
    (case l_form_of => k_is)
    (case c_form_of => k_is)
    (case k_form_of => k_is)
    (case a_check_code => k_is)
    (case l_check_code => k_is)
    (case c_check_code => k_is)
    (case k_check_code => k_is)
    (case a_check_number => k_is)
    (case l_check_number => k_is)
    (case c_check_number => k_is)
    (case k_check_number => k_is)
    (case a_check_names => k_is)
    (case l_check_names => k_is)
    (case c_check_names => k_is)
    (case k_check_names => k_is)
    (case a_check_rows => k_is)
    (case l_check_rows => k_is)
    (case c_check_rows => k_is)
    (case k_check_rows => k_is)
    (case a_check_parts => k_is)
    (case l_check_parts => k_is)
    (case c_check_parts => k_is)
    (case k_check_parts => k_is)
    (case a_check_ports => k_is)
    (case l_check_ports => k_is)
    (case c_check_ports => k_is)
    (case k_check_ports => k_is)
    (case a_check_instruction => k_is)
    (case l_check_instruction => k_is)
    (case c_check_instruction => k_is)
    (case k_check_instruction => k_is)
    (case a_check_course => k_is)
    (case l_check_course => k_is)
    (case c_check_course => k_is)
    (case k_check_course => k_is)
    (case a_has_fused_ring => k_is)
    (case l_has_fused_ring => k_is)
    (case c_has_fused_ring => k_is)
    (case k_has_fused_ring => k_is)
    (case a_copied_menu => k_is)
    (case l_copied_menu => k_is)
    (case c_copied_menu => k_is)
    (case k_copied_menu => k_is)
    (case a_copied_lines => k_is)
    (case l_copied_lines => k_is)
    (case c_copied_lines => k_is)
    (case k_copied_lines => k_is)
    (case a_first_plain => k_is)
    (case l_first_plain => k_is)
    (case c_first_plain => k_is)
    (case k_first_plain => k_is)
    (case a_l_plain => k_is)
    (case l_l_plain => k_is)
    (case c_l_plain => k_is)
    (case k_l_plain => k_is)
    (case a_l_code => k_is)
    (case l_l_code => k_is)
    (case c_l_code => k_is)
    (case k_l_code => k_is)
    (case a_l_real_plain => k_is)
    (case l_l_real_plain => k_is)
    (case c_l_real_plain => k_is)
    (case k_l_real_plain => k_is)
    (case a_l_real_code => k_is)
    (case l_l_real_code => k_is)
    (case c_l_real_code => k_is)
    (case k_l_real_code => k_is)
    (case a_l_real => k_is)
    (case l_l_real => k_is)
    (case c_l_real => k_is)
    (case k_l_real => k_is)
    (case a_l_names => k_is)
    (case l_l_names => k_is)
    (case c_l_names => k_is)
    (case k_l_names => k_is)
    (case a_l_things => k_is)
    (case l_l_things => k_is)
    (case c_l_things => k_is)
    (case k_l_things => k_is)
    (case a_l_choices => k_is)
    (case l_l_choices => k_is)
    (case c_l_choices => k_is)
    (case k_l_choices => k_is)
    (case a_l_stock => k_is)
    (case l_l_stock => k_is)
    (case c_l_stock => k_is)
    (case k_l_stock => k_is)
    (case a_l_state => k_is)
    (case l_l_state => k_is)
    (case c_l_state => k_is)
    (case k_l_state => k_is)
    (case a_l_options => k_is)
    (case l_l_options => k_is)
    (case c_l_options => k_is)
    (case k_l_options => k_is)
    (case a_l_takes => k_is)
    (case l_l_takes => k_is)
    (case c_l_takes => k_is)
    (case k_l_takes => k_is)
    (case a_l_taken => k_is)
    (case l_l_taken => k_is)
    (case c_l_taken => k_is)
    (case k_l_taken => k_is)
    (case a_l_take => k_is)
    (case l_l_take => k_is)
    (case c_l_take => k_is)
    (case k_l_take => k_is)
    (case a_l_state_holds => k_is)
    (case l_l_state_holds => k_is)
    (case c_l_state_holds => k_is)
    (case k_l_state_holds => k_is)
    (case z_isinstance => k_is)
    (case z_int => k_is)
    (case z_bool => k_is)
    (case z_str => k_is)
    (case z_tuple => k_is)
    (case z_list => k_is)
    (case z_len => k_is)
    (case z_abs => k_is)
    (case z_max => k_is)
    (case z_min => k_is)
    (case z_range => k_is)
    (case z_ValueError => k_is)
    (case z_enumerate => k_is)
    (case z_set => k_is)
    (case z_dict => k_is)
    (case z_sum => k_is)
    (case z_sorted => k_is)
    (case z_zip => k_is)
    (case a_PlainBook_options => k_is)
    (case i_PlainBook_options => k_is)
    (case l_PlainBook_options => k_is)
    (case c_PlainBook_options => k_is)
    (case k_PlainBook_options => k_is)
    (case kCOddsError => k_is)
    (case bCOddsError => k_is)
    (case tCOddsError => k_is)
    (case gaCOddsError => k_is)
    (case gbCOddsError => k_is)
    (case hdCOddsError => k_is)
    (case clCOddsError => k_is)
    (case mrCOddsError => k_is)
    (case kCBadShare => k_is)
    (case bCBadShare => k_is)
    (case tCBadShare => k_is)
    (case gaCBadShare => k_is)
    (case gbCBadShare => k_is)
    (case hdCBadShare => k_is)
    (case clCBadShare => k_is)
    (case mrCBadShare => k_is)
    (case kCBadText => k_is)
    (case bCBadText => k_is)
    (case tCBadText => k_is)
    (case gaCBadText => k_is)
    (case gbCBadText => k_is)
    (case hdCBadText => k_is)
    (case clCBadText => k_is)
    (case mrCBadText => k_is)
    (case kCBadBook => k_is)
    (case bCBadBook => k_is)
    (case tCBadBook => k_is)
    (case gaCBadBook => k_is)
    (case gbCBadBook => k_is)
    (case hdCBadBook => k_is)
    (case clCBadBook => k_is)
    (case mrCBadBook => k_is)
    (case kCBadMove => k_is)
    (case bCBadMove => k_is)
    (case tCBadMove => k_is)
    (case gaCBadMove => k_is)
    (case gbCBadMove => k_is)
    (case hdCBadMove => k_is)
    (case clCBadMove => k_is)
    (case mrCBadMove => k_is)
    (case kCBadProgram => k_is)
    (case bCBadProgram => k_is)
    (case tCBadProgram => k_is)
    (case gaCBadProgram => k_is)
    (case gbCBadProgram => k_is)
    (case hdCBadProgram => k_is)
    (case clCBadProgram => k_is)
    (case mrCBadProgram => k_is)
    (case kCBadPlan => k_is)
    (case bCBadPlan => k_is)
    (case tCBadPlan => k_is)
    (case gaCBadPlan => k_is)
    (case gbCBadPlan => k_is)
    (case hdCBadPlan => k_is)
    (case clCBadPlan => k_is)
    (case mrCBadPlan => k_is)
    (case kCUnfit => k_is)
    (case bCUnfit => k_is)
    (case tCUnfit => k_is)
    (case gaCUnfit => k_is)
    (case gbCUnfit => k_is)
    (case hdCUnfit => k_is)
    (case clCUnfit => k_is)
    (case mrCUnfit => k_is)
    (case kCTooLarge => k_is)
    (case bCTooLarge => k_is)
    (case tCTooLarge => k_is)
    (case gaCTooLarge => k_is)
    (case gbCTooLarge => k_is)
    (case hdCTooLarge => k_is)
    (case clCTooLarge => k_is)
    (case mrCTooLarge => k_is)
    (case kCBadEdit => k_is)
    (case bCBadEdit => k_is)
    (case tCBadEdit => k_is)
    (case gaCBadEdit => k_is)
    (case gbCBadEdit => k_is)
    (case hdCBadEdit => k_is)
    (case clCBadEdit => k_is)
    (case mrCBadEdit => k_is)
    (case cb_pg => k_is)
    (case cb_hd => k_is)
    (case cb_po => k_is)
    (case cb_sa => k_is)
    (case cb_n1 => k_is)
    (case cb_n2 => k_is)
    (case cb_n3 => k_is)
    (case cb_n4 => k_is)
    (case cb_n5 => k_is)
    (case cb_n6 => k_is)
    (case cb_n7 => k_is)
    (case cb_mk => k_is)
    (case cb_kp => k_is)
    (case a_initCodeBook => k_is)
    (case i_initCodeBook => k_is)
    (case l_initCodeBook => k_is)
    (case c_initCodeBook => k_is)
    (case k_initCodeBook => k_is)
    (case sk_pg => k_is)
    (case sk_hd => k_is)
    (case sk_po => k_is)
    (case sk_sa => k_is)
    (case sk_n1 => k_is)
    (case sk_n2 => k_is)
    (case sk_mk => k_is)
    (case sk_kp => k_is)
    (case a_initStock => k_is)
    (case i_initStock => k_is)
    (case l_initStock => k_is)
    (case c_initStock => k_is)
    (case k_initStock => k_is)
    (case pb_pg => k_is)
    (case pb_hd => k_is)
    (case pb_po => k_is)
    (case pb_sa => k_is)
    (case pb_n1 => k_is)
    (case pb_n2 => k_is)
    (case pb_n3 => k_is)
    (case pb_n4 => k_is)
    (case pb_mk => k_is)
    (case pb_kp => k_is)
    (case a_initPlainBook => k_is)
    (case i_initPlainBook => k_is)
    (case l_initPlainBook => k_is)
    (case c_initPlainBook => k_is)
    (case k_initPlainBook => k_is)
    (case xBB => k_exc)
    (case nmBadShare => k_is)
    (case nxBadShare => decide)
    (case nmBadText => k_is)
    (case nxBadText => decide)
    (case nmBadBook => k_is)
    (case nxBadBook => decide)
    (case nmBadProgram => k_is)
    (case nxBadProgram => decide)
    (case nmBadPlan => k_is)
    (case nxBadPlan => decide)
    (case nmUnfit => k_is)
    (case nxUnfit => decide)
    (case nmTooLarge => k_is)
    (case nxTooLarge => decide)
    (case nmBadEdit => k_is)
    (case nxBadEdit => decide)
    (case upM => k_is)
    (case upVM => k_is)
    (case selfM => k_is)
    (case lID => k_is)
    (case lCF => k_is)
    (case noCF => decide)
    (case lCR => k_is)
    (case aBBadMove => k_is)
    (case tyBBadMove => k_is)
    (case lBBadMove => k_is)
    (case cBBadMove => k_is)
    (case ldBBadMove => k_is)
    (case vBBadMove => rfl)
    (case pfBBadMove => decide +kernel)
    (case lcBBadMove => k_is)
    (case pt_super => decide +kernel)
    (case z_super => k_is)
    (case z_any => k_is)
    (case suBBadMove => ks_is)
    (case noBBadMove => k_is)
    (case saBBadMove => k_is)
    (case clBBadMove => k_is)
    (case rvBBadMove => rfl)
    (case g_LETTERS => k_is)
    (case g_DIGITS => k_is)
    (case g_MOST_NAME_CHARACTERS => k_is)
    (case g_MOST_STATES => k_is)
    (case g_MOST_OPTIONS => k_is)
    (case g_VALUE_LIMIT => k_is)
    (case g_LEAST_MODULUS => k_is)
    (case g_MOST_MODULUS => k_is)
    (case g_MOST_REGISTERS => k_is)
    (case g_MOST_ROWS => k_is)
    (case g_MOST_CELLS => k_is)
    (case g_MOST_PARTS => k_is)
    (case g_MOST_PORTS => k_is)
    (case g_MOST_ITEMS => k_is)
    (case g_MOST_DEEDS => k_is)
    (case g_MOST_LINES => k_is)
    (case g_PLACE_LIMIT => k_is)
    (case g_NAME_LETTER => k_is)
    (case g_ASKED => k_is)
    (case g_DONE => k_is)


