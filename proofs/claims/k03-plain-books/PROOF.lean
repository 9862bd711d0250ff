import PyProof.Rows.All
import Wide.All
import OpenK.AllK
import Wide.FinOn
import HandS.ForMost
import HandS.ForExc
import HandS.IsInst
import HandS.Wide
import HandS.WideBits
import HandS.Gcd
import HandS.Defaults
import HandS.MakeKw
import HandS.Codes
import HandS.ExcIs
import HandS.EndBits
import HandS.Conv
import KE.KCallOwn
import HandS.Text
import HandS.StrMore
import HandS.FStr
import HandS.ClsMeth
import KE.IntTextLaws
import PyProof.Rows.StrAscii
import PyProof.Rows.StrFirst
import KE.DataEq
import KE.KDictWalk
import KE.DataMinMax
import HandS.Iter
import HandS.Property
import HandS.DictTup
import HandS.TupAny
import HandS.TupMul
import PyProof.Rows.StrMul
import PySem.Challenge.RW_oddskept_k03_plain_books
set_option Elab.async false
set_option linter.all false
set_option autoImplicit false
set_option maxRecDepth 100000
set_option maxHeartbeats 4000000
namespace U
open PySem PySem.Spec PyProof.Rows L2

/-! ## heaps -/
/-- all but what is named in M stands as it stood -/
def Kp (M : List Addr) (H H' : Hp) : Prop := ∀ b o, b ∉ M → H b = some o → H' b = some o
section
variable {M N : List Addr} {H H' H0 H1 : Hp} {p a b : Addr} {o u : HO}
theorem Kp.refl : Kp M H H := fun _ _ _ e => e
theorem Kp.trans (k : Kp M H H1) (k' : Kp M H1 H') : Kp M H H' := fun b o n e => k' b o n (k b o n e)
theorem Kp.get0 (k : Kp [] H H') (e : H a = some o) : H' a = some o := k a o (by simp) e
theorem Kp.get1 (k : Kp [p] H H') (n : a ≠ p) (e : H a = some o) : H' a = some o := k a o (by simpa using n) e
theorem Kp.of0 (k : Kp [] H H') : Kp M H H' := fun b o _ e => k b o (by simp) e
theorem Kp.new (n : H p = none) : Kp M H (upd H p o) := fun b u _ e => by rw [upd_ne (ne_of_none e n)]; exact e
theorem Kp.mut : Kp [p] H (upd H p o) := fun b u n e => by rw [upd_ne (by simpa using n)]; exact e
/-- what changes was not there at the beginning -/
theorem Kp.low (k : Kp M H0 H) (k1 : Kp [p] H H1) (n : H0 p = none) : Kp M H0 H1 := fun b o nb e => by
  refine k1 b o ?_ (k b o nb e)
  intro z
  have z' : b = p := by simpa using z
  rw [z', n] at e; cases e
theorem Kp.one (k : Kp [p] H0 H) (k1 : Kp [] H H1) : Kp [p] H0 H1 := k.trans k1.of0
theorem Kp.free (k : Kp [] H H') (n : H' p = none) : H p = none := by
  cases e : H p with
  | none => rfl
  | some o => rw [k.get0 e] at n; cases n
theorem Kp.ne_new (k : Kp M H H') (n : H' p = none) (e : H a = some o) (nm : a ∉ M) : a ≠ p := ne_of_none (k a o nm e) n
end

/-! ## steps -/
section
variable {σ : L2.St} {H : Hp} {Q : VK} {D : Ends} {ta tb te : TE} {t : TA} {K : PySem.W.Frag} {E : XK}
theorem u_var {i : Nat} {v : V} (h : σ[i]? = some (some v)) (q : Q v H) : tVar i σ H Q := ⟨v, h, q⟩
theorem u_c {v : V} (q : Q v H) : tC v σ H Q := q
theorem u_op {r : R2} (h : ta σ H fun x H1 => tb σ H1 fun y H2 => r x y H2 Q) : tOp r ta tb σ H Q := h
theorem u_un {r : V → Hp → VK → Prop} (h : ta σ H fun x H1 => r x H1 Q) : tUn r ta σ H Q := h
theorem u_I0 {g : Int → Int → V} {i j : Int} (q : Q (g i j) H) : rI0 g (.int i) (.int j) H Q := ⟨i, j, rfl, rfl, q⟩
theorem u_I {C : Int → Int → Prop} {g : Int → Int → V} {i j : Int} (c : C i j) (q : Q (g i j) H) : rI C g (.int i) (.int j) H Q := ⟨i, j, rfl, rfl, c, q⟩
theorem u_U {g : Int → V} {i : Int} (q : Q (g i) H) : rU g (.int i) H Q := ⟨i, rfl, q⟩
theorem u_cb {r : List V → Hp → VK → Prop} (h : t σ H fun vs H1 => r vs H1 Q) : tCB r t σ H Q := h
theorem u_nil {Q : List V → Hp → Prop} (q : Q [] H) : tNil σ H Q := q
theorem u_cons {Q : List V → Hp → Prop} {tr : TA} (h : ta σ H fun x H1 => tr σ H1 fun xs H2 => Q (x :: xs) H2) : tCons ta tr σ H Q := h
theorem u_call {sp : Sp} (h : t σ H fun vs H1 => sp (vs ++ []) H1 Q E) : tCall sp [] E t σ H Q := h
theorem u_eq {x y : V} (h : scal x y = true) (q : Q (.bl (decide (x = y))) H) : rEq x y H Q := ⟨h, q⟩
theorem u_ne {x y : V} (h : scal x y = true) (q : Q (.bl (!decide (x = y))) H) : rNe x y H Q := ⟨h, q⟩
theorem dI {i j : Int} : decide (V.int i = V.int j) = decide (i = j) := by
  by_cases h : i = j <;> simp [h]
theorem dB {i j : Bool} : decide (V.bl i = V.bl j) = decide (i = j) := by
  by_cases h : i = j <;> simp [h]
theorem dS {i j : Str} : decide (V.str i = V.str j) = decide (i = j) := by
  by_cases h : i = j <;> simp [h]
theorem u_eqI {i j : Int} (q : Q (.bl (decide (i = j))) H) : rEq (.int i) (.int j) H Q := ⟨rfl, by rw [dI]; exact q⟩
theorem u_neI {i j : Int} (q : Q (.bl (!decide (i = j))) H) : rNe (.int i) (.int j) H Q := ⟨rfl, by rw [dI]; exact q⟩
theorem u_eqB {i j : Bool} (q : Q (.bl (decide (i = j))) H) : rEq (.bl i) (.bl j) H Q := ⟨rfl, by rw [dB]; exact q⟩
theorem u_eqS {i j : Str} (q : Q (.bl (decide (i = j))) H) : rEq (.str i) (.str j) H Q := ⟨rfl, by rw [dS]; exact q⟩
theorem u_neS {i j : Str} (q : Q (.bl (!decide (i = j))) H) : rNe (.str i) (.str j) H Q := ⟨rfl, by rw [dS]; exact q⟩

/-! tests -/
def Br (b : Bool) (A B : Hp → Prop) (H : Hp) : Prop := if b = true then A H else B H
def TB (x : V) (Q : Bool → Hp → Prop) (H : Hp) : Prop := ∃ k, x = .bl k ∧ Q k H
theorem u_tb {k : Bool} {Q : Bool → Hp → Prop} (q : Q k H) : TB (.bl k) Q H := ⟨k, rfl, q⟩
theorem u_test {Q : Bool → Hp → Prop} (h : te σ H fun x H' => TB x Q H') : tTest te σ H Q := h
theorem u_tB {Q : Bool → Hp → Prop} (h : te σ H fun x H' => TB x Q H') : tB te σ H Q := h
theorem u_and {a b : TT} {Q : Bool → Hp → Prop} (h : a σ H fun c H1 => Br c (fun H2 => b σ H2 Q) (fun H2 => Q false H2) H1) : tAnd a b σ H Q := h
theorem u_or {a b : TT} {Q : Bool → Hp → Prop} (h : a σ H fun c H1 => Br c (fun H2 => Q true H2) (fun H2 => b σ H2 Q) H1) : tOr a b σ H Q := h
theorem u_not {a : TT} {Q : Bool → Hp → Prop} (h : a σ H fun c H1 => Q (!c) H1) : tNot a σ H Q := h
theorem u_andV (h : ta σ H fun x H1 => TB x (fun c H2 => Br c (fun H3 => tb σ H3 Q) (fun H3 => Q (.bl false) H3) H2) H1) : tAndV ta tb σ H Q := h
theorem u_orV (h : ta σ H fun x H1 => TB x (fun c H2 => Br c (fun H3 => Q (.bl true) H3) (fun H3 => tb σ H3 Q) H2) H1) : tOrV ta tb σ H Q := h
theorem u_notV (h : ta σ H fun x H1 => TB x (fun c H2 => Q (.bl (!c)) H2) H1) : tNotV ta σ H Q := h
theorem u_ifx {c : TT} (h : c σ H fun b H1 => Br b (fun H2 => ta σ H2 Q) (fun H2 => tb σ H2 Q) H1) : tIf c ta tb σ H Q := h
theorem br_t {A B : Hp → Prop} (h : A H) : Br true A B H := h
theorem br_f {A B : Hp → Prop} (h : B H) : Br false A B H := h
theorem br_nt {A B : Hp → Prop} (h : B H) : Br (!true) A B H := h
theorem br_nf {A B : Hp → Prop} (h : A H) : Br (!false) A B H := h
theorem br_d {c : Prop} [Decidable c] {A B : Hp → Prop} (h1 : c → A H) (h2 : ¬ c → B H) : Br (decide c) A B H := by
  by_cases h : c
  · rw [decide_eq_true h]; exact h1 h
  · rw [decide_eq_false h]; exact h2 h
theorem br_n {b : Bool} {A B : Hp → Prop} (h : Br b B A H) : Br (!b) A B H := by cases b <;> exact h
theorem br_b {b : Bool} {A B : Hp → Prop} (h1 : b = true → A H) (h2 : b = false → B H) : Br b A B H := by
  cases b
  · exact h2 rfl
  · exact h1 rfl
theorem br_yes {b : Bool} {A B : Hp → Prop} (e : b = true) (h : A H) : Br b A B H := by rw [e]; exact h
theorem br_no {b : Bool} {A B : Hp → Prop} (e : b = false) (h : B H) : Br b A B H := by rw [e]; exact h

/-! statements -/
theorem u_seq {t u : TS} (h : t { D with nx := u D } σ H) : tSeq t u D σ H := h
theorem u_next (q : D.nx σ H) : tNext D σ H := q
theorem u_asg {g : TG} (h : te σ H fun x H1 => g x σ H1 D.nx) : tAsg te g D σ H := h
theorem u_drop (h : te σ H fun _ H1 => D.nx σ H1) : tDrop te D σ H := h
theorem u_ret (h : te σ H D.rt) : tRet te D σ H := h
theorem u_retN (h : D.rt .non H) : tRetN D σ H := h
theorem u_if {c : TT} {t u : TS} (h : c σ H fun b H1 => Br b (t D σ) (u D σ) H1) : tIfS c t u D σ H := h
theorem u_brk (q : D.bk σ H) : tBreak D σ H := q
theorem u_cont (q : D.ct σ H) : tCont D σ H := q
theorem u_cut {t u : TS} (Mid : L2.St → Hp → Prop) (h1 : t { D with nx := Mid } σ H) (h2 : ∀ σ' H', Mid σ' H' → u D σ' H') : C8.tCut t u D σ H := ⟨Mid, h1, h2⟩
theorem u_par {i j : Nat} {x y : V} (q : D.nx ((σ.set i (some x)).set j (some y)) H) : (∃ v w, [x, y] = [v, w] ∧ D.nx ((σ.set i (some v)).set j (some w)) H) := ⟨x, y, rfl, q⟩
theorem u_tpar {i j : Nat} (h : ta σ H fun x H1 => tb σ H1 fun y H2 => D.nx ((σ.set i (some x)).set j (some y)) H2) : tPar i j (tCons ta (tCons tb tNil)) D σ H := by
  show ta σ H fun x H1 => tb σ H1 fun y H2 => ∃ v w, [x, y] = [v, w] ∧ D.nx ((σ.set i (some v)).set j (some w)) H2
  have e : (fun (x : V) (H1 : Hp) => tb σ H1 fun y H2 => D.nx ((σ.set i (some x)).set j (some y)) H2) = fun x H1 => tb σ H1 fun y H2 => ∃ v w, [x, y] = [v, w] ∧ D.nx ((σ.set i (some v)).set j (some w)) H2 := by
    funext x H1
    congr 1
    funext y H2
    apply propext
    constructor
    · intro q; exact ⟨x, y, rfl, q⟩
    · rintro ⟨v, w, ev, q⟩
      cases ev
      exact q
  rw [← e]
  exact h
theorem g_name {i : Nat} {v : V} {Q : L2.St → Hp → Prop} (q : Q (σ.set i (some v)) H) : gName i v σ H Q := q
theorem g_nil {Q : L2.St → Hp → Prop} (q : Q σ H) : gNil [] σ H Q := ⟨rfl, q⟩
theorem g_cons {g : TG} {u : TGs} {v : V} {r : List V} {Q : L2.St → Hp → Prop} (h : g v σ H fun σ' H' => u r σ' H' Q) : gCons g u (v :: r) σ H Q := ⟨v, r, rfl, h⟩
theorem g_tup {n : Nat} {g : TGs} {a : Addr} {xs : List V} {Q : L2.St → Hp → Prop} (hs : SqT K H a xs) (hl : xs.length = n) (h : g xs σ H Q) : gTup K n g (.ref a) σ H Q := ⟨a, xs, rfl, hs, hl, h⟩
theorem g_sub {to ti : TE} {s : TSet} {v : V} {Q : L2.St → Hp → Prop} (h : to σ H fun o H1 => ti σ H1 fun i H2 => s o i v H2 fun H3 => Q σ H3) : gSub to ti s v σ H Q := h
theorem s_list {p : Addr} {xs : List V} {k : Int} {j : Nat} {v : V} {Q : Hp → Prop} (h : H p = some (.lst xs)) (e : ixN xs.length k = some j) (q : ∀ H', Kp [p] H H' → H' p = some (.lst (xs.set j v)) → Q H') : rSetL (.ref p) (.int k) v H Q :=
  ⟨p, xs, k, j, rfl, rfl, h, e, q _ Kp.mut upd_same⟩

/-! objects made -/
theorem u_tup (h : t σ H fun xs H1 => xs.length ≤ sizeLine ∧ ∀ p, H1 p = none → Q (.ref p) (upd H1 p (.tup xs))) : tTup t σ H Q := h
def NewT (xs : List V) (H : Hp) (Q : VK) : Prop := xs.length ≤ sizeLine ∧ ∀ p, H p = none → Q (.ref p) (upd H p (.tup xs))
def NewL (xs : List V) (H : Hp) (Q : VK) : Prop := xs.length ≤ sizeLine ∧ ∀ p, H p = none → Q (.ref p) (upd H p (.lst xs))
theorem u_tupN (h : t σ H fun xs H1 => NewT xs H1 Q) : tTup t σ H Q := h
theorem u_lstN (h : t σ H fun xs H1 => NewL xs H1 Q) : tLst t σ H Q := h
theorem n_tup {xs : List V} (hl : xs.length ≤ 100000) (k : ∀ p H', H p = none → Kp [] H H' → H' p = some (.tup xs) → Q (.ref p) H') : NewT xs H Q :=
  ⟨Nat.le_trans hl (by decide), fun p hp => k p _ hp (Kp.new hp) upd_same⟩
theorem n_lst {xs : List V} (hl : xs.length ≤ 100000) (k : ∀ p H', H p = none → Kp [] H H' → H' p = some (.lst xs) → Q (.ref p) H') : NewL xs H Q :=
  ⟨Nat.le_trans hl (by decide), fun p hp => k p _ hp (Kp.new hp) upd_same⟩

/-! reads -/
theorem u_ixL {p : Addr} {xs : List V} {i : Int} {v : V} (h : SqL K H p xs) (e : atI xs i = some v) (q : Q v H) : rIxL K (.ref p) (.int i) H Q := ⟨p, xs, i, v, rfl, rfl, h, e, q⟩
theorem u_ixT {p : Addr} {xs : List V} {i : Int} {v : V} (h : SqT K H p xs) (e : atI xs i = some v) (q : Q v H) : rIxT K (.ref p) (.int i) H Q := ⟨p, xs, i, v, rfl, rfl, h, e, q⟩
theorem sql {p : Addr} {xs : List V} (h : H p = some (.lst xs)) : SqL K H p xs := .inl (.inl h)
theorem sqt {p : Addr} {xs : List V} (h : H p = some (.tup xs)) : SqT K H p xs := .inl (.inl h)
theorem u_fld {f : Str} {a C dx : Addr} {fs : List (Str × V)} {v : V} (h : ta σ H fun x H1 => x = .ref a ∧ H1 a = some (.ins C dx fs) ∧ Cls K C ∧ NoAttr K C f ∧ fs.lookup f = some v ∧ Q v H1) (mono : ∀ Q1 Q2 : VK, (∀ x H', Q1 x H' → Q2 x H') → ta σ H Q1 → ta σ H Q2) : tFld K ta f σ H Q :=
  mono _ _ (fun x H' z => ⟨a, C, dx, fs, v, z⟩) h
/-- o.f, o known -/
def FldOf (K : PySem.W.Frag) (f : Str) (x : V) (H : Hp) (Q : VK) : Prop := ∃ a C dx fs v, x = .ref a ∧ H a = some (.ins C dx fs) ∧ Cls K C ∧ NoAttr K C f ∧ fs.lookup f = some v ∧ Q v H
theorem u_fldN {f : Str} (h : ta σ H fun x H1 => FldOf K f x H1 Q) : tFld K ta f σ H Q := h
theorem fld_of {f : Str} {a C dx : Addr} {fs : List (Str × V)} {v : V} (hc : Cls K C) (hn : NoAttr K C f) (h : H a = some (.ins C dx fs)) (hl : fs.lookup f = some v) (q : Q v H) : FldOf K f (.ref a) H Q := ⟨a, C, dx, fs, v, rfl, h, hc, hn, hl, q⟩

/-! built-in calls -/
def rAbs : List V → Hp → VK → Prop := fun xs H Q => ∃ i, xs = [.int i] ∧ Q (.int (if i < 0 then -i else i)) H
def rMax2 : List V → Hp → VK → Prop := fun xs H Q => ∃ i j, xs = [.int i, .int j] ∧ Q (.int (if j > i then j else i)) H
def rMin2 : List V → Hp → VK → Prop := fun xs H Q => ∃ i j, xs = [.int i, .int j] ∧ Q (.int (if j < i then j else i)) H
def rInt1 : List V → Hp → VK → Prop := fun xs H Q => (∃ i, xs = [.int i] ∧ Q (.int i) H) ∨ ∃ k, xs = [.bl k] ∧ Q (.int (if k then 1 else 0)) H
def rLenA (K : PySem.W.Frag) : List V → Hp → VK → Prop := fun xs H Q => ∃ p ys, xs = [.ref p] ∧ (SqL K H p ys ∨ SqT K H p ys) ∧ Q (.int ys.length) H
section
variable {X : Cx}
theorem c_abs : CallR X (.builtin "abs") rAbs := call_abs
theorem c_max2 (hc : X.calm = true) : CallR X (.builtin "max") rMax2 := call_max2 hc
theorem c_min2 (hc : X.calm = true) : CallR X (.builtin "min") rMin2 := call_min2 hc
theorem c_int1 : CallR X (.type "int") rInt1 := call_int1
theorem c_len : CallR X (.builtin "len") (rLenA X.K) := call_len_seq
end
theorem u_abs {i : Int} (q : Q (.int (if i < 0 then -i else i)) H) : rAbs [.int i] H Q := ⟨i, rfl, q⟩
theorem u_max2 {i j : Int} (q : Q (.int (if j > i then j else i)) H) : rMax2 [.int i, .int j] H Q := ⟨i, j, rfl, q⟩
theorem u_min2 {i j : Int} (q : Q (.int (if j < i then j else i)) H) : rMin2 [.int i, .int j] H Q := ⟨i, j, rfl, q⟩
theorem u_int1 {i : Int} (q : Q (.int i) H) : rInt1 [.int i] H Q := .inl ⟨i, rfl, q⟩
theorem u_intB {k : Bool} (q : Q (.int (if k then 1 else 0)) H) : rInt1 [.bl k] H Q := .inr ⟨k, rfl, q⟩
theorem u_lenL {p : Addr} {ys : List V} (h : SqL K H p ys) (q : Q (.int ys.length) H) : rLenA K [.ref p] H Q := ⟨p, ys, rfl, .inl h, q⟩
theorem u_lenT {p : Addr} {ys : List V} (h : SqT K H p ys) (q : Q (.int ys.length) H) : rLenA K [.ref p] H Q := ⟨p, ys, rfl, .inr h, q⟩
theorem u_gcd {a b : Int} (q : Q (.int ((Nat.gcd a.natAbs b.natAbs : Nat) : Int)) H) : rGcd [.int a, .int b] H Q := ⟨a, b, rfl, q⟩
theorem u_isi {x : V} {A B : String} {b : Bool} (ty : TyX K H x (.type A)) (hb : kitB A B = some b) (q : Q (.bl b) H) : rIsi K [x, .ty B] H Q := ⟨x, .ty B, _, _, b, rfl, .ty B, ty, kit_ty hb, q⟩
theorem kB_ii : kitB "int" "int" = some true := by decide +kernel
theorem kB_ib : kitB "int" "bool" = some false := by decide +kernel
theorem kB_bb : kitB "bool" "bool" = some true := by decide +kernel
theorem kB_bi : kitB "bool" "int" = some true := by decide +kernel
theorem kB_ss : kitB "str" "str" = some true := by decide +kernel
theorem kB_sb : kitB "str" "bool" = some false := by decide +kernel
theorem kB_si : kitB "str" "int" = some false := by decide +kernel
theorem kB_is : kitB "int" "str" = some false := by decide +kernel
theorem kB_bs : kitB "bool" "str" = some false := by decide +kernel
theorem u_isi_ii {i : Int} (q : Q (.bl true) H) : rIsi K [.int i, .ty "int"] H Q := u_isi (.base (.int i)) kB_ii q
theorem u_isi_ib {i : Int} (q : Q (.bl false) H) : rIsi K [.int i, .ty "bool"] H Q := u_isi (.base (.int i)) kB_ib q
theorem u_isi_bb {i : Bool} (q : Q (.bl true) H) : rIsi K [.bl i, .ty "bool"] H Q := u_isi (.base (.bl i)) kB_bb q

/-! loops -/
theorem w_by {c : TT} {tb : TS} (Pv : L2.St → Hp → Prop) (μ : L2.St → Hp → Nat) (h0 : Pv σ H)
    (hs : ∀ σ H, Pv σ H → c σ H fun b H1 => Br b (fun H2 => tb { D with nx := fun σ' H' => Pv σ' H' ∧ μ σ' H' < μ σ H, ct := fun σ' H' => Pv σ' H' ∧ μ σ' H' < μ σ H, bk := D.nx } σ H2) (fun H2 => D.nx σ H2) H1)
    (mono : ∀ σ H Q Q', (∀ b H1, Q b H1 → Q' b H1) → c σ H Q → c σ H Q') : tWhile c tb D σ H := while_by Pv μ h0 hs mono
theorem f_list {wi : TI} {g : TG} {tb : TS} {D : Ends} (h : wi σ H fun J H1 => ∃ W : Nat → Nat → L2.St → Hp → Prop, (∃ m, W 0 m σ H1) ∧ ∀ i m σ H, W i m σ H →
      (J.stop i H ∧ D.nx σ H) ∨ (J.go i H ∧ ∃ N : L2.St → Hp → Prop, (∀ σ' H', N σ' H' → ∃ m', m' < m ∧ W (i + 1) m' σ' H') ∧ ∀ x H', J.yld i H x H' → g x σ H' fun σ2 H2 => tb { D with nx := N, ct := N, bk := D.nx } σ2 H2)) : tFor wi g tb D σ H := h
end

/-! ## defs -/
/-- the def st stands as x -/
def Df (K : PySem.W.Frag) (mg : Str → Option Value) (x : Str) (st : Stmt) : Prop := ∃ f fd, mg x = some (.ref f) ∧ Fun K x x st f fd
theorem df_of {K : PySem.W.Frag} {h : Heap} {mg : Str → Option Value} {x : Str} {st : Stmt} {f : Addr} (X : K.In h) (G : h.Ns mainGlobals mg)
    {od an : Option Addr} {sl : Array (Option Value)} {oc kV dc pm cd ct : Value}
    (a : PySem.W.nsIn K mainGlobals x = some (some (.ref f))) (l : K.lookup f = some ⟨oc, od, .func (PySem.W.fnOf x x (defArgs st) (defBody st) (defScope st) .none kV dc pm an cd ct), sl⟩)
    (c : PySem.W.codeIn K cd x = true) (k : PySem.W.keepIn K (.ref f) = true) : Df K mg x st := ⟨f, _, PySem.W.mg_of X G a, fun_mk l c k⟩
/-- the def x keeps the promise sp -/
def Fc (P : Program) (w : World) (K : PySem.W.Frag) (mg : Str → Option Value) (base : Heap) (CX : CXT) (k : Nat) (x : Str) (ps : List Str) (sp : Sp) : Prop :=
  ∃ f fd, FnOk P w K mg base CX k f fd ps sp ∧ mg x = some (.ref f) ∧ PySem.W.keepIn K (.ref f) = true ∧ Binds K fd ps []
section
variable {P : Program} {w : World} {K : PySem.W.Frag} {mg : Str → Option Value} {base : Heap} {x : Str} {st : Stmt} {ps N : List Str} {k : Nat} {sp : Sp}
theorem fc_of (F : Df K mg x st) (S : FnScope N ps (defScope st)) (len : ∀ vs H Q E, sp vs H Q E → vs.length = ps.length)
    (hb : ∀ (kV doc pm : Value) (an : Option Addr) (cdv ct : Value) (us : List Value), us.length = ps.length → bindArgs (PySem.W.fnOf x x (defArgs st) (defBody st) (defScope st) .none kV doc pm an cdv ct) ⟨us, []⟩ = pure (ps.zip us))
    (hbody : ∀ (f : Addr) (cdv : Value) (A : Around) (outer : List Env) (s : Shared) (H : Hp) (vs : List V) (Q : VK) (E : XK), Room k (A.deeper (envOfC x (defScope st) s.heap.objs.size f cdv)) → sp vs H Q E →
      ∃ t, PSs (cxOf CX0 P w K mg base N x (defScope st) f cdv A outer s H E).nox (defBody st) t ∧ t { nx := fun _ H' => Q .non H', rt := Q } (start N vs) H) : Fc P w K mg base CX0 (k + 1) x ps sp := by
  obtain ⟨f, fd, hm, F⟩ := F
  exact ⟨f, fd, F.ok S len (hbody f), hm, F.kp, F.binds hb⟩
theorem fc_ofX (F : Df K mg x st) (S : FnScope N ps (defScope st)) (len : ∀ vs H Q E, sp vs H Q E → vs.length = ps.length)
    (hb : ∀ (kV doc pm : Value) (an : Option Addr) (cdv ct : Value) (us : List Value), us.length = ps.length → bindArgs (PySem.W.fnOf x x (defArgs st) (defBody st) (defScope st) .none kV doc pm an cdv ct) ⟨us, []⟩ = pure (ps.zip us))
    (hbody : ∀ (f : Addr) (cdv : Value) (A : Around) (outer : List Env) (s : Shared) (H : Hp) (vs : List V) (Q : VK) (E : XK), Room k (A.deeper (envOfC x (defScope st) s.heap.objs.size f cdv)) → sp vs H Q E →
      ∃ t, PSs (cxOf (L2.CX P w) P w K mg base N x (defScope st) f cdv A outer s H E) (defBody st) t ∧ t { nx := fun _ H' => Q .non H', rt := Q } (start N vs) H) : Fc P w K mg base (L2.CX P w) (k + 1) x ps sp := by
  obtain ⟨f, fd, hm, F⟩ := F
  exact ⟨f, fd, F.okX S len (hbody f), hm, F.kp, F.binds hb⟩
end
section
variable {X : Cx} {CX : CXT} {k : Nat} {x : Str} {ps : List Str} {sp : Sp} {E : XK} {p pos : Pos} {e : Expr} {es : List Expr} {t : TA}
theorem pe_fc (F : Fc X.prog X.w X.K X.mg X.base CX k x ps sp) (hx : Passes CX X E) (hr : Room k X.A) (ha : PA X (e :: es) t) (hg : Gl X x := by rfl) (hdb : (x == ("__debug__" : Str)) = false := by decide)
    (he : starEach (e :: es) X.env = (false, eval e X.env) :: starEach es X.env := by rfl) (hpl : (backTo pos (starEach es X.env)).any (·.1) = false := by rfl) : PE X (.Call (.Name x p) (e :: es) [] pos) (tCall sp [] E t) := by
  obtain ⟨f, fd, F, hm, hk, hb⟩ := F
  exact pe_call F hr hg hm hk hb .nil hx ha hdb he hpl
end
/-! ## searches -/
section
variable {M : List Addr} {H H' H0 H1 Hk : Hp} {p a b : Addr} {o u : HO}
theorem Kp.low' (k : Kp M H0 H) (k1 : Kp [p] H H1) (n : Hk p = none) (kf : Kp M H0 Hk) : Kp M H0 H1 := fun b o nb e => by
  refine k1 b o ?_ (k b o nb e)
  intro z
  have z' : b = p := by simpa using z
  have q := kf b o nb e
  rw [z', n] at q; cases q
theorem ne_new (h' : H b = none) (h : H a = some o) : a ≠ b := ne_of_none h h'
theorem ne_new' (h' : H b = none) (h : H a = some o) : b ≠ a := (ne_of_none h h').symm
theorem u_app (q : (if a = a then True else False)) : True := trivial
end
/-! ## the pool of draws -/
def Pool (H : Hp) (a : Addr) : Prop := ∃ c x n k : Int, H a = some (.lst [.int c, .int x, .int n, .int k])
theorem Pool.kp0 {H H' : Hp} {a : Addr} (k : Kp [] H H') (h : Pool H a) : Pool H' a := by
  obtain ⟨c, x, n, j, e⟩ := h
  exact ⟨c, x, n, j, k.get0 e⟩
theorem Pool.kp1 {H H' : Hp} {a p : Addr} (k : Kp [p] H H') (hn : a ≠ p) (h : Pool H a) : Pool H' a := by
  obtain ⟨c, x, n, j, e⟩ := h
  exact ⟨c, x, n, j, k.get1 hn e⟩
theorem Pool.ne {H : Hp} {a b : Addr} (h' : H b = none) (h : Pool H a) : a ≠ b := by
  obtain ⟨c, x, n, j, e⟩ := h
  exact ne_of_none e h'
/-- the script: any list of ints that no one writes -/
def Scr (K : PySem.W.Frag) (H : Hp) (a : Addr) (ns : List Int) : Prop := (∃ o, H a = some (.frz o (.lst (ns.map V.int)))) ∨ ∀ H', SqL K H' a (ns.map V.int)
theorem Scr.sq {K : PySem.W.Frag} {H : Hp} {a : Addr} {ns : List Int} (h : Scr K H a ns) : SqL K H a (ns.map V.int) := by
  rcases h with ⟨o, e⟩ | h
  · exact .inl (.inr ⟨o, e⟩)
  · exact h H
theorem Scr.kp0 {K : PySem.W.Frag} {H H' : Hp} {a : Addr} {ns : List Int} (k : Kp [] H H') (h : Scr K H a ns) : Scr K H' a ns := by
  rcases h with ⟨o, e⟩ | h
  · exact .inl ⟨o, k.get0 e⟩
  · exact .inr h
theorem Scr.kp1 {K : PySem.W.Frag} {H H' Hk : Hp} {a p : Addr} {ns : List Int} (k : Kp [p] H H') (n : Hk p = none) (hk : Scr K Hk a ns) (h : Scr K H a ns) : Scr K H' a ns := by
  rcases h with ⟨o, e⟩ | h
  · rcases hk with ⟨o', e'⟩ | hk
    · exact .inl ⟨o, k.get1 (ne_of_none e' n) e⟩
    · exact .inr hk
  · exact .inr h
theorem Scr.of {K : PySem.W.Frag} {H : Hp} {a : Addr} {ns : List Int} (hO : Only H) (h : SqL K H a (ns.map V.int)) : Scr K H a ns := by
  rcases h with (h | ⟨o, h⟩) | h
  · rcases hO a with e | ⟨o, xs, e⟩
    · rw [e] at h; cases h
    · rw [e] at h; cases h
  · exact .inl ⟨o, h⟩
  · exact .inr fun H' => .inr h
/-! ## items -/
theorem atI_int {ns : List Int} {i : Int} (h0 : 0 ≤ i) (h1 : i < ((ns.map V.int).length : Int)) : ∃ z, atI (ns.map V.int) i = some (.int z) := by
  rw [List.length_map] at h1
  have hl : i.toNat < ns.length := by omega
  obtain ⟨n, rfl⟩ : ∃ n : Nat, i = (n : Int) := ⟨i.toNat, by omega⟩
  have hn : n < ns.length := by omega
  refine ⟨ns[n], atI_nat ?_⟩
  rw [List.getElem?_map, List.getElem?_eq_getElem hn]
  rfl
theorem pow_c {i : Int} (h : i.natAbs < 2 ^ 64) {j : Int} (h0 : 0 ≤ j) (h1 : j ≤ 1000000) : CPow i j := ⟨h0, h1, h⟩
theorem item_int {ns : List Int} {i : Nat} {y : V} (h : (ns.map V.int)[i]? = some y) : ∃ z, y = V.int z := by
  rw [List.getElem?_map] at h
  cases e : ns[i]? with
  | none => rw [e] at h; cases h
  | some z => rw [e] at h; exact ⟨z, (Option.some.inj h).symm⟩
/-- a slice of a list -/
def SlLN (K : PySem.W.Frag) (a : Addr) (lo hi : Option Int) (H : Hp) (Q : VK) : Prop := ∃ xs, SqL K H a xs ∧ ∀ p, H p = none → Q (.ref p) (upd H p (.lst (cutV xs lo hi)))
theorem u_slL {K : PySem.W.Frag} {H : Hp} {Q : VK} {a : Addr} {lo hi : Option Int} {xs : List V} (h : SqL K H a xs) (k : ∀ p H', H p = none → Kp [] H H' → H' p = some (.lst (cutV xs lo hi)) → Q (.ref p) H') : rSlL K (.ref a) lo hi H Q :=
  ⟨a, xs, rfl, h, fun p hp => k p _ hp (Kp.new hp) upd_same⟩
theorem u_sl {σ : L2.St} {H : Hp} {Q : VK} {r : V → Option Int → Option Int → Hp → VK → Prop} {te : TE} {tl th : TO} (h : te σ H fun x H1 => tl σ H1 fun l H2 => th σ H2 fun u H3 => r x l u H3 Q) : tSl r te tl th σ H Q := h
theorem u_noPart {σ : L2.St} {H : Hp} {Q : Option Int → Hp → Prop} (q : Q none H) : tNoPart σ H Q := q
def IntQ (x : V) (Q : Option Int → Hp → Prop) (H : Hp) : Prop := ∃ i, x = .int i ∧ Q (some i) H
theorem u_part {σ : L2.St} {H : Hp} {Q : Option Int → Hp → Prop} {t : TE} (h : t σ H fun x H1 => IntQ x Q H1) : tPart t σ H Q := h
theorem u_intq {i : Int} {H : Hp} {Q : Option Int → Hp → Prop} (q : Q (some i) H) : IntQ (.int i) Q H := ⟨i, rfl, q⟩
theorem cutV_map {ns : List Int} {lo hi : Option Int} : ∃ ms : List Int, cutV (ns.map V.int) lo hi = ms.map V.int ∧ ms.length ≤ ns.length := by
  refine ⟨(ns.drop (HT.sIx (ns.map V.int).length 0 lo)).take (HT.sIx (ns.map V.int).length (ns.map V.int).length hi - HT.sIx (ns.map V.int).length 0 lo), ?_, ?_⟩
  · unfold cutV
    rw [List.map_take, List.map_drop]
  · rw [List.length_take, List.length_drop]; omega
/-! ## loops, once more -/
def LoopQ (J : It) (g : TG) (tb : TS) (D : Ends) (σ : L2.St) (H1 : Hp) : Prop := ∃ W : Nat → Nat → L2.St → Hp → Prop, (∃ m, W 0 m σ H1) ∧ ∀ i m σ H, W i m σ H →
  (J.stop i H ∧ D.nx σ H) ∨ (J.go i H ∧ ∃ N : L2.St → Hp → Prop, (∀ σ' H', N σ' H' → ∃ m', m' < m ∧ W (i + 1) m' σ' H') ∧ ∀ x H', J.yld i H x H' → g x σ H' fun σ2 H2 => tb { D with nx := N, ct := N, bk := D.nx } σ2 H2)
section
variable {K : PySem.W.Frag} {g : TG} {tb : TS} {D : Ends} {σ : L2.St} {H : Hp}
theorem u_for {wi : TI} (h : wi σ H fun J H1 => LoopQ J g tb D σ H1) : tFor wi g tb D σ H := h
def ItLq (K : PySem.W.Frag) (x : V) (R : It → Hp → Prop) (H : Hp) : Prop := ∃ a, x = .ref a ∧ (∃ xs, SqL K H a xs) ∧ R (Itl K a) H
def ItTq (K : PySem.W.Frag) (x : V) (R : It → Hp → Prop) (H : Hp) : Prop := ∃ a, x = .ref a ∧ (∃ xs, SqT K H a xs) ∧ R (Itt K a) H
theorem u_iL {tl : TE} {R : It → Hp → Prop} (h : tl σ H fun x H1 => ItLq K x R H1) : iList K tl σ H R := h
theorem u_iT {tl : TE} {R : It → Hp → Prop} (h : tl σ H fun x H1 => ItTq K x R H1) : iTup K tl σ H R := h
theorem u_iLq {a : Addr} {xs : List V} {R : It → Hp → Prop} (h : SqL K H a xs) (q : R (Itl K a) H) : ItLq K (.ref a) R H := ⟨a, rfl, ⟨xs, h⟩, q⟩
theorem u_iTq {a : Addr} {xs : List V} {R : It → Hp → Prop} (h : SqT K H a xs) (q : R (Itt K a) H) : ItTq K (.ref a) R H := ⟨a, rfl, ⟨xs, h⟩, q⟩
def ItR1 (vs : List V) (R : It → Hp → Prop) (H : Hp) : Prop := ∃ j : Int, vs = [.int j] ∧ -(2 ^ 62) ≤ j ∧ j < 2 ^ 62 ∧ R (Itr 0 j.toNat) H
def ItR2 (vs : List V) (R : It → Hp → Prop) (H : Hp) : Prop := ∃ i j : Int, vs = [.int i, .int j] ∧ (-(2 ^ 62) ≤ i ∧ i < 2 ^ 62 ∧ -(2 ^ 62) ≤ j ∧ j < 2 ^ 62) ∧ R (Itr i (j - i).toNat) H
theorem u_r1 {ta : TA} {R : It → Hp → Prop} (h : ta σ H fun vs H1 => ItR1 vs R H1) : iRng1 ta σ H R := h
theorem u_r2 {ta : TA} {R : It → Hp → Prop} (h : ta σ H fun vs H1 => ItR2 vs R H1) : iRng2 ta σ H R := h
theorem u_r1q {j : Int} {R : It → Hp → Prop} (h : -(2 ^ 62) ≤ j ∧ j < 2 ^ 62) (q : R (Itr 0 j.toNat) H) : ItR1 [.int j] R H := ⟨j, rfl, h.1, h.2, q⟩
theorem u_r2q {i j : Int} {R : It → Hp → Prop} (h : -(2 ^ 62) ≤ i ∧ i < 2 ^ 62 ∧ -(2 ^ 62) ≤ j ∧ j < 2 ^ 62) (q : R (Itr i (j - i).toNat) H) : ItR2 [.int i, .int j] R H := ⟨i, j, rfl, h, q⟩
theorem l_list {a : Addr} (xs : List V) (Pv : Nat → L2.St → Hp → Prop) (h0 : Pv 0 σ H) (hl : ∀ i σ H, i ≤ xs.length → Pv i σ H → SqL K H a xs)
    (hs : ∀ i x σ H, xs[i]? = some x → Pv i σ H → g x σ H fun σ2 H2 => tb { D with nx := Pv (i + 1), ct := Pv (i + 1), bk := D.nx } σ2 H2) (hd : ∀ σ H, Pv xs.length σ H → D.nx σ H) : LoopQ (Itl K a) g tb D σ H := for_list Pv h0 hl hs hd
theorem l_tup {a : Addr} (xs : List V) (Pv : Nat → L2.St → Hp → Prop) (h0 : Pv 0 σ H) (hl : ∀ i σ H, i ≤ xs.length → Pv i σ H → SqT K H a xs)
    (hs : ∀ i x σ H, xs[i]? = some x → Pv i σ H → g x σ H fun σ2 H2 => tb { D with nx := Pv (i + 1), ct := Pv (i + 1), bk := D.nx } σ2 H2) (hd : ∀ σ H, Pv xs.length σ H → D.nx σ H) : LoopQ (Itt K a) g tb D σ H := for_tup Pv h0 hl hs hd
theorem l_range {lo : Int} {n : Nat} (Pv : Nat → L2.St → Hp → Prop) (h0 : Pv 0 σ H)
    (hs : ∀ i σ H, i < n → Pv i σ H → g (.int (lo + i)) σ H fun σ2 H2 => tb { D with nx := Pv (i + 1), ct := Pv (i + 1), bk := D.nx } σ2 H2) (hd : ∀ σ H, Pv n σ H → D.nx σ H) : LoopQ (Itr lo n) g tb D σ H := for_range Pv h0 hs hd
end
/-! ## what the operators ask of numbers -/
theorem two64 : (2 : Int) ^ 64 = 18446744073709551616 := by decide +kernel
theorem cmul_of {i j : Int} (h : (-18446744073709551616 < i ∧ i < 18446744073709551616) ∨ (-18446744073709551616 < j ∧ j < 18446744073709551616)) : CMul i j := by
  unfold CMul
  rw [two64]
  exact h
theorem cpow_of {i j : Int} (h : 0 ≤ j ∧ j ≤ 1000000 ∧ -18446744073709551616 < i ∧ i < 18446744073709551616) : CPow i j := by
  refine ⟨h.1, h.2.1, ?_⟩
  have e : (2 : Nat) ^ 64 = 18446744073709551616 := by decide +kernel
  rw [e]
  omega
theorem cdivw_of {i j : Int} (h : 0 < j ∧ j < 18446744073709551616) : CDivW i j := by
  refine wide_div (b := 64) h.1 ?_ (by decide) (by decide)
  have e : (2 : Nat) ^ 64 = 18446744073709551616 := by decide +kernel
  rw [e]
  omega
/-! ## the built-in names -/
theorem b_len : bootBuiltins "len" = some (.builtin "len") := by decide +kernel
theorem b_abs : bootBuiltins "abs" = some (.builtin "abs") := by decide +kernel
theorem b_max : bootBuiltins "max" = some (.builtin "max") := by decide +kernel
theorem b_min : bootBuiltins "min" = some (.builtin "min") := by decide +kernel
theorem b_isinstance : bootBuiltins "isinstance" = some (.builtin "isinstance") := by decide +kernel
theorem b_sum : bootBuiltins "sum" = some (.builtin "sum") := by decide +kernel
theorem b_sorted : bootBuiltins "sorted" = some (.builtin "sorted") := by decide +kernel
theorem b_any : bootBuiltins "any" = some (.builtin "any") := by decide +kernel
theorem b_all : bootBuiltins "all" = some (.builtin "all") := by decide +kernel
theorem b_divmod : bootBuiltins "divmod" = some (.builtin "divmod") := by decide +kernel
theorem b_ord : bootBuiltins "ord" = some (.builtin "ord") := by decide +kernel
theorem b_chr : bootBuiltins "chr" = some (.builtin "chr") := by decide +kernel
theorem b_pow : bootBuiltins "pow" = some (.builtin "pow") := by decide +kernel
theorem b_hash : bootBuiltins "hash" = some (.builtin "hash") := by decide +kernel
theorem b_repr : bootBuiltins "repr" = some (.builtin "repr") := by decide +kernel
theorem b_next : bootBuiltins "next" = some (.builtin "next") := by decide +kernel
theorem b_iter : bootBuiltins "iter" = some (.builtin "iter") := by decide +kernel
theorem b_int : bootBuiltins "int" = some (.type "int") := by decide +kernel
theorem b_str : bootBuiltins "str" = some (.type "str") := by decide +kernel
theorem b_bool : bootBuiltins "bool" = some (.type "bool") := by decide +kernel
theorem b_list : bootBuiltins "list" = some (.type "list") := by decide +kernel
theorem b_tuple : bootBuiltins "tuple" = some (.type "tuple") := by decide +kernel
theorem b_dict : bootBuiltins "dict" = some (.type "dict") := by decide +kernel
theorem b_set : bootBuiltins "set" = some (.type "set") := by decide +kernel
theorem b_range : bootBuiltins "range" = some (.type "range") := by decide +kernel
theorem b_enumerate : bootBuiltins "enumerate" = some (.type "enumerate") := by decide +kernel
theorem b_reversed : bootBuiltins "reversed" = some (.type "reversed") := by decide +kernel
theorem b_zip : bootBuiltins "zip" = some (.type "zip") := by decide +kernel
theorem b_type : bootBuiltins "type" = some (.type "type") := by decide +kernel
theorem b_ValueError : bootBuiltins "ValueError" = some (.type "ValueError") := by decide +kernel
theorem b_map : bootBuiltins "map" = some (.type "map") := by decide +kernel
theorem b_filter : bootBuiltins "filter" = some (.type "filter") := by decide +kernel
theorem b_frozenset : bootBuiltins "frozenset" = some (.type "frozenset") := by decide +kernel
theorem cdivw_big {i j : Int} (h : 0 < j ∧ j ≤ 10000000000000000000000000000000000000000000000000000000000000000000000) : CDivW i j := by
  refine wide_div (b := 256) h.1 ?_ (by decide) (by decide)
  have e : (2 : Nat) ^ 256 = 115792089237316195423570985008687907853269984665640564039457584007913129639936 := by decide +kernel
  rw [e]
  omega
/-- a power of two written numbers -/
theorem u_pow {i j v : Int} {H : Hp} {Q : VK} (c : CPow i j) (e : i ^ j.toNat = v) (q : Q (.int v) H) : rI CPow (fun i j => V.int (i ^ j.toNat)) (.int i) (.int j) H Q := ⟨i, j, rfl, rfl, c, by show Q (.int (i ^ j.toNat)) H; rw [e]; exact q⟩
/-! ## new instances, at the slots -/
def NewI (C : Addr) (sp : Sp) (vs : List V) (H : Hp) (Q : VK) (E : XK) : Prop :=
  ∀ x dx, H x = none → H dx = none → dx ≠ x → sp (.ref x :: vs) (upd (upd H dx (.own x)) x (.ins C dx [])) (fun v H2 => v = .non ∧ Q (.ref x) H2) E
def tNew (C : Addr) (sp : Sp) (dvs : List V) (E : L2.St → XK) (t : TA) : TE := fun σ H Q => t σ H fun vs H1 => NewI C sp (vs ++ dvs) H1 Q (E σ)
def tNewK (C : Addr) (n m : Nat) (sp : Sp) (g : List V → List V → List V) (E : L2.St → XK) (t tk : TA) : TE := fun σ H Q => t σ H fun vs H1 => tk σ H1 fun zs H2 => vs.length = n ∧ zs.length = m ∧ NewI C sp (g vs zs) H2 Q (E σ)
theorem passAll {X : Cx} {CX : CXT} {E : XK} (h : Passes CX X E) (σ : L2.St) : PassesAt CX X σ E := fun pins H s e s' I c => h pins σ H s e s' I c
section
variable {X : Cx} {CX : CXT} {k : Nat} {f C : Addr} {fd : FuncData} {ps : List Str} {sp : Sp}
theorem run_new {pins : List (Addr × Obj)} {σ : L2.St} {H : Hp} {s : Shared} {Q : VK} {E : XK} {us : List Value} {kw : List (Str × Value)} {vs : List V} (mk : Mk X.K C f) (ok : FnOk X.prog X.w X.K X.mg X.base CX k f fd ps sp) (room : Room (k + 1) X.A)
    (pass : PassesAt CX X σ E) (inv : Inv X pins σ H s)
    (bind : ∀ (x : Addr) (z : Shared), X.K.In z.heap → (V.ref x :: vs).length = ps.length → ∃ ws, BindsTo z fd ⟨Value.ref x :: us, kw⟩ (ps.zip ws) ∧ Vals (V.ref x :: vs) ws)
    (go : NewI C sp vs H Q E) : wpAny (model X.prog X.w) X.A (call (.ref C) us kw) (EP X pins σ Q) X.xe s := by
  obtain ⟨n, hn⟩ : ∃ n, n = s.heap.objs.size := ⟨_, rfl⟩
  have made := Inv.made (C := C) inv
  rw [← hn] at made
  have asked := go (n + 1) n (inv.hok.fresh (hn ▸ Nat.le_succ _)) (inv.hok.fresh (hn ▸ Nat.le_refl _)) (Nat.ne_of_lt (Nat.lt_succ_self n))
  obtain ⟨ws, bound, same⟩ := bind (n + 1) _ made.kIn (ok.len _ _ _ _ asked)
  refine wpAny_call ?_
  refine make_map (f := f) inv.kIn mk.makes mk.init (beq_iff_eq.mp mk.fn) ?_
  rw [← hn]
  refine codeAny_mono (ok.run (X.A.under (.builtin "type.__call__" ⟨.ref C :: us, kw⟩)) X.stack _ _ _ ws _ _ E (room.make C us kw) (made.env0.make C us kw) bound same asked) fun r s2 out => ?_
  match r, out with
  | .error e, out => exact pass pins _ _ e s2 made out
  | .ok (.ret u), out =>
    obtain ⟨v, H3, J, rel, isn, rest⟩ := made.after out
    subst isn
    exact ⟨rel, .ref (n + 1), H3, J, rfl, rest⟩
  | .ok .next, out => exact out.elim
  | .ok .brk, out => exact out.elim
  | .ok .cont, out => exact out.elim
variable {x : Str} {p pos : Pos} {e : Expr} {es : List Expr} {t tk : TA} {dvs : List V} {ds : List Value} {E : L2.St → XK} {kws : List Keyword} {ks : List Str} {n : Nat} {g : List Value → List Value → List Value} {gV : List V → List V → List V}
theorem pe_new (mk : Mk X.K C f) (ok : FnOk X.prog X.w X.K X.mg X.base CX k f fd ps sp) (pass : ∀ σ, PassesAt CX X σ (E σ)) (room : Room (k + 1) X.A) (named : X.mg x = some (.ref C)) (bind : Binds X.K fd ps ds) (dflt : Vals dvs ds)
    (ha : PA X (e :: es) t) (hg : Gl X x := by rfl) (hdb : (x == ("__debug__" : Str)) = false := by decide)
    (he : starEach (e :: es) X.env = (false, eval e X.env) :: starEach es X.env := by rfl) (hpl : (backTo pos (starEach es X.env)).any (·.1) = false := by rfl) :
    PE X (.Call (.Name x p) (e :: es) [] pos) (tNew C sp dvs E t) := by
  constructor
  intro pins s σ H Q inv asked
  apply wpAny_Call_Name_kw
  refine ld_glob inv hg named ?_ hdb
  refine PySem.W.callWith_K (h₀ := X.base) inv.ok.mod.kin mk.kp ?_ he hpl
  refine thn (ha.run pos pins s σ H _ inv asked) fun us s2 out => ?_
  obtain ⟨vs, H2, inv2, rel, go⟩ := out
  refine ⟨inv2.kIn, run_new mk ok room (pass σ) inv2 (fun a z hz hl => ?_) go⟩
  have all : Vals (V.ref a :: (vs ++ dvs)) (Value.ref a :: (us ++ ds)) := .cons rfl (rel.append dflt)
  exact ⟨_, bind z (Value.ref a :: us) hz (all.length.symm.trans hl), all⟩
theorem pe_newK (mk : Mk X.K C f) (ok : FnOk X.prog X.w X.K X.mg X.base CX k f fd ps sp) (pass : ∀ σ, PassesAt CX X σ (E σ)) (room : Room (k + 1) X.A) (named : X.mg x = some (.ref C)) (bind : KBn X.K fd ps (n + 1) ks g gV)
    (ha : PA X (e :: es) t) (hkw : PK X kws tk) (hg : Gl X x := by rfl) (hall : (backToKw pos (keywordEach kws X.env)).all (·.1.isSome) = true := by rfl) (hks : (backToKw pos (keywordEach kws X.env)).filterMap (·.1) = ks := by rfl)
    (hdb : (x == ("__debug__" : Str)) = false := by decide) (he : starEach (e :: es) X.env = (false, eval e X.env) :: starEach es X.env := by rfl)
    (hpl : ((backTo pos (starEach (e :: es) X.env)).any (·.1) || (backToKw pos (keywordEach kws X.env)).any (·.1.isNone)) = false := by rfl) (hgv : ∀ a vs zs, gV (V.ref a :: vs) zs = V.ref a :: gV vs zs) :
    PE X (.Call (.Name x p) (e :: es) kws pos) (tNewK C n ks.length sp gV E t tk) := by
  constructor
  intro pins s σ H Q inv asked
  apply wpAny_Call_Name_kw
  refine ld_glob inv hg named ?_ hdb
  refine PySem.W.callWith_KW (h₀ := X.base) inv.ok.mod.kin mk.kp hall ?_ hpl he
  refine thn (ha.run pos pins s σ H _ inv asked) fun us s2 out => ?_
  obtain ⟨vs, H2, inv2, rel, asked2⟩ := out
  refine thn (hkw.run pos pins s2 σ H2 _ inv2 asked2) fun ws s3 out3 => ?_
  obtain ⟨zs, H3, inv3, rel3, l1, l2, go⟩ := out3
  refine ⟨inv3.kIn, ?_⟩
  rw [hks]
  refine run_new mk ok room (pass σ) inv3 (fun a z hz hl => ?_) go
  have all : Vals (V.ref a :: vs) (Value.ref a :: us) := .cons rfl rel
  refine ⟨_, bind.to z (Value.ref a :: us) ws hz (all.length.symm.trans (congrArg Nat.succ l1)) (rel3.length.symm.trans l2), ?_⟩
  rw [← hgv]
  exact bind.rel all rel3
end
theorem u_newI {C : Addr} {sp : Sp} {dvs : List V} {E : L2.St → XK} {t : TA} {σ : L2.St} {H : Hp} {Q : VK} (h : t σ H fun vs H1 => NewI C sp (vs ++ dvs) H1 Q (E σ)) : tNew C sp dvs E t σ H Q := h
def NewK (C : Addr) (n m : Nat) (sp : Sp) (g : List V → List V → List V) (vs zs : List V) (H : Hp) (Q : VK) (E : XK) : Prop := vs.length = n ∧ zs.length = m ∧ NewI C sp (g vs zs) H Q E
theorem u_newK {C : Addr} {n m : Nat} {sp : Sp} {g : List V → List V → List V} {E : L2.St → XK} {t tk : TA} {σ : L2.St} {H : Hp} {Q : VK} (h : t σ H fun vs H1 => tk σ H1 fun zs H2 => NewK C n m sp g vs zs H2 Q (E σ)) : tNewK C n m sp g E t tk σ H Q := h
theorem newK {C : Addr} {n m : Nat} {sp : Sp} {g : List V → List V → List V} {vs zs : List V} {H : Hp} {Q : VK} {E : XK} (h1 : vs.length = n) (h2 : zs.length = m) (h : NewI C sp (g vs zs) H Q E) : NewK C n m sp g vs zs H Q E := ⟨h1, h2, h⟩
/-- a new instance: what was there stands -/
theorem Kp.inst {H H1 : Hp} {x dx C : Addr} {M : List Addr} (nx : H x = none) (nd : H dx = none) (k : Kp [x] (upd (upd H dx (.own x)) x (.ins C dx [])) H1) : Kp M H H1 := fun b o _ e =>
  k b o (by simpa using ne_of_none e nx) (by rw [upd_ne (ne_of_none e nx), upd_ne (ne_of_none e nd)]; exact e)
/-! ## stores into fields -/
def SFq (K : PySem.W.Frag) (f : Str) (x y : V) (H : Hp) (Q : Hp → Prop) : Prop := ∃ a C dx fs, x = .ref a ∧ H a = some (.ins C dx fs) ∧ Cls K C ∧ NoAttr K C f ∧ fs.length < 1000 ∧ Q (upd H a (.ins C dx (putF f y fs)))
theorem u_sfld {K : PySem.W.Frag} {ta tv : TE} {f : Str} {D : Ends} {σ : L2.St} {H : Hp} (h : tv σ H fun y H1 => ta σ H1 fun x H2 => SFq K f x y H2 (D.nx σ)) : sFld K ta tv f D σ H := h
theorem sf_of {K : PySem.W.Frag} {f : Str} {a C dx : Addr} {fs : List (Str × V)} {y : V} {H : Hp} {Q : Hp → Prop} (hc : Cls K C) (hn : NoAttr K C f) (h : H a = some (.ins C dx fs)) (hl : fs.length < 1000)
    (q : ∀ H', Kp [a] H H' → H' a = some (.ins C dx (putF f y fs)) → Q H') : SFq K f (.ref a) y H Q := ⟨a, C, dx, fs, rfl, h, hc, hn, hl, q _ Kp.mut upd_same⟩
/-! ## operators of own classes -/
section
variable {X : Cx} {CX : CXT} {k : Nat} {f C : Addr} {fd : FuncData} {ps : List Str} {sp : Sp} {E : XK}
theorem back_of {pins : List (Addr × Obj)} {σ : L2.St} {Q : VK} {r : Value} {s : Shared} (h : EP X pins σ Q r s) : PySem.W.CmpBack (EP X pins σ Q) r s := by
  obtain ⟨v, H, inv, rel, q⟩ := h
  cases v with
  | non => cases (show r = .none from rel); exact ⟨.non, H, inv, rel, q⟩
  | bl b => cases (show r = .bool b from rel); exact ⟨.bl b, H, inv, rel, q⟩
  | int i => obtain ⟨t, e⟩ := (show ∃ t, r = .int i t from rel); subst e; exact ⟨.int i, H, inv, rel, q⟩
  | str i => obtain ⟨t, e⟩ := (show ∃ t, r = .str i t from rel); subst e; exact ⟨.str i, H, inv, rel, q⟩
  | byt i => obtain ⟨t, e⟩ := (show ∃ t, r = .bytes i t from rel); subst e; exact ⟨.byt i, H, inv, rel, q⟩
  | flt i => obtain ⟨t, e⟩ := (show ∃ t, r = .float i t from rel); subst e; exact ⟨.flt i, H, inv, rel, q⟩
  | ref a => cases (show r = .ref a from rel); exact ⟨.ref a, H, inv, rel, q⟩
  | ty n => cases (show r = .type n from rel); exact ⟨.ty n, H, inv, rel, q⟩
/-- a op b, two instances of the class at C -/
def rOwn (C : Addr) (sp : Sp) (E : XK) : R2 := fun x y H Q => ∃ a b dx dy fs gs, x = .ref a ∧ y = .ref b ∧ H a = some (.ins C dx fs) ∧ H b = some (.ins C dy gs) ∧ sp [x, y] H Q E
theorem op_own {op : Operator} (ok : FnOk X.prog X.w X.K X.mg X.base CX k f fd ps sp) (first : PySem.W.selfFirst X.K C = true) (found : PySem.W.findIn X.K (.ref C) (PySem.dunder op.info.2) = some (some (.ref f))) (isf : PySem.W.isFn X.K (.ref f) = true)
    (bind : Binds X.K fd ps []) (pass : Passes CX X E) (room : Room k X.A) : OpR X (binaryOp op) (rOwn C sp E) := by
  intro pins s σ H x y v u Q inv rx ry asked
  obtain ⟨a, b, dx, dy, fs, gs, rfl, rfl, ha, hb, go⟩ := asked
  cases rx
  cases ry
  obtain ⟨_, J, _⟩ := ins_get inv.hok ha
  obtain ⟨_, J2, _⟩ := ins_get inv.hok hb
  obtain ⟨_, J, _⟩ := J.look
  obtain ⟨_, J2, _⟩ := J2.look
  obtain ⟨_, fr⟩ := inv.fr
  refine PySem.W.binop_K fr inv.ok.mod.kin J J2.type first found isf ?_
  exact wpAny_mono (run_fn (vs := [.ref a, .ref b]) (us := [.ref a, .ref b]) ok room bind .nil pass inv (.cons rfl (.cons rfl .nil)) go) (fun r s2 q => back_of q) fun _ _ z => z
/-- a == y, a an instance of the class at C, y of the type t -/
def rEqOwn (K : PySem.W.Frag) (C : Addr) (sp : Sp) (E : XK) : R2 := fun x y H Q => ∃ a dx fs t, x = .ref a ∧ H a = some (.ins C dx fs) ∧ TyX K H y t ∧ PySem.W.notFirst K C t = true ∧ sp [x, y] H Q E
theorem op_eqOwn (ok : FnOk X.prog X.w X.K X.mg X.base CX k f fd ps sp) (found : PySem.W.findIn X.K (.ref C) "__eq__" = some (some (.ref f))) (isf : PySem.W.isFn X.K (.ref f) = true)
    (bind : Binds X.K fd ps []) (pass : Passes CX X E) (room : Room k X.A) : OpR X (compareOp .Eq) (rEqOwn X.K C sp E) := by
  intro pins s σ H x y v u Q inv rx ry asked
  obtain ⟨a, dx, fs, t, rfl, ha, ty, nf, go⟩ := asked
  cases rx
  obtain ⟨_, J, _⟩ := ins_get inv.hok ha
  obtain ⟨_, J, _⟩ := J.look
  obtain ⟨_, fr⟩ := inv.fr
  obtain ⟨Z, kit, hz, _⟩ := kit_of inv ry ty
  show wpAny (model X.prog X.w) X.A (richCompare .Eq (.ref a) u) (EP X pins σ Q) X.xe s
  refine PySem.W.cmp_K (op := .Eq) (tb := t) room.units0 fr inv.ok.mod.kin J (kit.ty _ _ inv.kIn hz) nf found isf ?_
  exact wpAny_mono (run_fn (vs := [.ref a, y]) (us := [.ref a, u]) ok room bind .nil pass inv (.cons rfl (.cons ry .nil)) go) (fun r s2 q => back_of q) fun _ _ z => z
end
/-! ## what a caught error is -/
def rIsE2 (K : PySem.W.Frag) (cls : Value) (d : Option Addr) (a : Addr) : List V → Hp → VK → Prop := fun xs H Q => ∃ (D : Addr) (c : V) (cv : Value) (b : Bool), cls = .ref D ∧ d = none ∧ ExcC K D ∧ xs = [.ref a, c] ∧ ClsV c cv ∧ PySem.W.kitOne K (.ref D) cv = some b ∧ Q (.bl b) H
def rIsET (K : PySem.W.Frag) (cls : Value) (d : Option Addr) (a : Addr) : List V → Hp → VK → Prop := fun xs H Q => ∃ (D tp : Addr) (cs : List V) (us : List Value) (b : Bool), cls = .ref D ∧ d = none ∧ ExcC K D ∧ xs = [.ref a, .ref tp] ∧ H tp = some (.tup cs) ∧ Paired ClsV cs us ∧ PySem.W.kitAny K (.ref D) us = some b ∧ Q (.bl b) H
section
variable {X : Cx} {a : Addr} {oe : Obj} {cls : Value} {d : Option Addr} {pn : List (Addr × Obj)}
theorem c_isE (hz : Zc cls d oe) (hf : ∃ vs, oe.data = .fields vs) : CallR (X.suite a ((a, oe) :: pn)) (.builtin "isinstance") (rIsE2 X.K cls d a) := by
  intro pins s σ H xs us Q inv rel asked
  obtain ⟨D, c, cv, b, rfl, rfl, C, rfl, kc, e, q⟩ := asked
  exact call_isE C hz hf pins s σ H _ us Q inv rel ⟨c, cv, b, rfl, fun u r => kc.eq r, e, q⟩
theorem c_isET (hz : Zc cls d oe) (hf : ∃ vs, oe.data = .fields vs) : CallR (X.suite a ((a, oe) :: pn)) (.builtin "isinstance") (rIsET X.K cls d a) := by
  intro pins s σ H xs us Q inv rel asked
  obtain ⟨D, tp, cs, ws, b, rfl, rfl, C, rfl, hT, kc, e, q⟩ := asked
  obtain ⟨u1, u2, rfl, r1, r2⟩ := vals2 rel
  cases (show u1 = Value.ref a from r1)
  cases (show u2 = Value.ref tp from r2)
  obtain ⟨got, _⟩ := inv.pin (a, oe) (List.mem_append.mpr (.inl List.mem_cons_self))
  obtain ⟨_, its, rv, o, h1, h2, n, h3⟩ := (show ObjOk X.prog X.w H s.heap tp (.tup cs) from inv.hok tp _ hT)
  have same := ClsV.all kc rv
  subst same
  obtain ⟨oc, od, dt, sl⟩ := o
  dsimp only at h2 h3
  subst h2 h3
  obtain ⟨vs, hv⟩ := hf
  have J : PySem.W.InstAt s.heap a oe D none := by
    cases oe
    cases hz.1
    cases hz.2
    dsimp only at hv
    subst hv
    exact ⟨got, rfl, rfl, trivial⟩
  exact PySem.W.kia_tup (PySem.W.handS_kitx_exc C.hg C.hk C.hs C.hd C.ha C.hn C.ht C.hm) inv.kIn J h1 e (fun z => nomatch z) fun tk => ⟨.bl b, H, inv.kept (t' := tk) fun _ _ z => z, rfl, q⟩
end
/-! ## methods, classes -/
def Dm (K : PySem.W.Frag) (C : Addr) (m qual : Str) (st : Stmt) : Prop := ∃ f fd, PySem.W.findIn K (.ref C) m = some (some (.ref f)) ∧ PySem.W.isFn K (.ref f) = true ∧ Fun K m qual st f fd
theorem dm_of {K : PySem.W.Frag} {C f : Addr} {m qual : Str} {st : Stmt} {od an : Option Addr} {sl : Array (Option Value)} {oc kV dc pm cd ct : Value}
    (a : PySem.W.findIn K (.ref C) m = some (some (.ref f))) (i : PySem.W.isFn K (.ref f) = true) (l : K.lookup f = some ⟨oc, od, .func (PySem.W.fnOf m qual (defArgs st) (defBody st) (defScope st) .none kV dc pm an cd ct), sl⟩)
    (c : PySem.W.codeIn K cd qual = true) (k : PySem.W.keepIn K (.ref f) = true) : Dm K C m qual st := ⟨f, _, a, i, fun_mk l c k⟩
def Mc (P : Program) (w : World) (K : PySem.W.Frag) (mg : Str → Option Value) (base : Heap) (CX : CXT) (k : Nat) (C : Addr) (m : Str) (ps : List Str) (sp : Sp) : Prop :=
  ∃ f fd, FnOk P w K mg base CX k f fd ps sp ∧ PySem.W.findIn K (.ref C) m = some (some (.ref f)) ∧ PySem.W.isFn K (.ref f) = true ∧ PySem.W.keepIn K (.ref f) = true ∧ Binds K fd ps []
section
variable {P : Program} {w : World} {K : PySem.W.Frag} {mg : Str → Option Value} {base : Heap} {m qual : Str} {st : Stmt} {ps N : List Str} {k : Nat} {sp : Sp} {C : Addr}
theorem mc_of (F : Dm K C m qual st) (S : FnScope N ps (defScope st)) (len : ∀ vs H Q E, sp vs H Q E → vs.length = ps.length)
    (hb : ∀ (kV doc pm : Value) (an : Option Addr) (cdv ct : Value) (us : List Value), us.length = ps.length → bindArgs (PySem.W.fnOf m qual (defArgs st) (defBody st) (defScope st) .none kV doc pm an cdv ct) ⟨us, []⟩ = pure (ps.zip us))
    (hbody : ∀ (f : Addr) (cdv : Value) (A : Around) (outer : List Env) (s : Shared) (H : Hp) (vs : List V) (Q : VK) (E : XK), Room k (A.deeper (envOfC qual (defScope st) s.heap.objs.size f cdv)) → sp vs H Q E →
      ∃ t, PSs (cxOf CX0 P w K mg base N qual (defScope st) f cdv A outer s H E).nox (defBody st) t ∧ t { nx := fun _ H' => Q .non H', rt := Q } (start N vs) H) : Mc P w K mg base CX0 (k + 1) C m ps sp := by
  obtain ⟨f, fd, hm, hi, F⟩ := F
  exact ⟨f, fd, F.ok S len (hbody f), hm, hi, F.kp, F.binds hb⟩
theorem mc_ofX (F : Dm K C m qual st) (S : FnScope N ps (defScope st)) (len : ∀ vs H Q E, sp vs H Q E → vs.length = ps.length)
    (hb : ∀ (kV doc pm : Value) (an : Option Addr) (cdv ct : Value) (us : List Value), us.length = ps.length → bindArgs (PySem.W.fnOf m qual (defArgs st) (defBody st) (defScope st) .none kV doc pm an cdv ct) ⟨us, []⟩ = pure (ps.zip us))
    (hbody : ∀ (f : Addr) (cdv : Value) (A : Around) (outer : List Env) (s : Shared) (H : Hp) (vs : List V) (Q : VK) (E : XK), Room k (A.deeper (envOfC qual (defScope st) s.heap.objs.size f cdv)) → sp vs H Q E →
      ∃ t, PSs (cxOf (L2.CX P w) P w K mg base N qual (defScope st) f cdv A outer s H E) (defBody st) t ∧ t { nx := fun _ H' => Q .non H', rt := Q } (start N vs) H) : Mc P w K mg base (L2.CX P w) (k + 1) C m ps sp := by
  obtain ⟨f, fd, hm, hi, F⟩ := F
  exact ⟨f, fd, F.okX S len (hbody f), hm, hi, F.kp, F.binds hb⟩
end
section
variable {X : Cx} {CX : CXT} {k : Nat} {C : Addr} {m : Str} {ps : List Str} {sp : Sp} {E : XK}
theorem op_mc {op : Operator} (F : Mc X.prog X.w X.K X.mg X.base CX k C (PySem.dunder op.info.2) ps sp) (first : PySem.W.selfFirst X.K C = true) (pass : Passes CX X E) (room : Room k X.A) : OpR X (binaryOp op) (rOwn C sp E) := by
  obtain ⟨f, fd, ok, a, i, _, b⟩ := F
  exact op_own ok first a i b pass room
theorem op_mcEq (F : Mc X.prog X.w X.K X.mg X.base CX k C "__eq__" ps sp) (pass : Passes CX X E) (room : Room k X.A) : OpR X (compareOp .Eq) (rEqOwn X.K C sp E) := by
  obtain ⟨f, fd, ok, a, i, _, b⟩ := F
  exact op_eqOwn ok a i b pass room
end
/-- an own error class, as it stands -/
structure ErrC (K : PySem.W.Frag) (mg : Str → Option Value) (x : Str) (C : Addr) : Prop where
  g : mg x = some (.ref C)
  k : PySem.W.keepIn K (.ref C) = true
  b : PySem.W.subIn K (.ref C) (.type "BaseException") = some true
  t : PySem.W.typeIn K (.ref C) = some (.type "type")
  e : ExcC K C
theorem ErrC.exm {K : PySem.W.Frag} {mg : Str → Option Value} {x : Str} {C : Addr} {cls : Value} {b : Bool} (h : ErrC K mg x C) (s : PySem.W.subIn K cls (.ref C) = some b) : PySem.W.exmOne K cls (.ref C) = some b := PySem.W.exm_ref h.b h.e.hd h.t s
theorem kit_own {K : PySem.W.Frag} {C : Addr} {t : Value} {b : Bool} (hd : PySem.W.hasDictIn K C = true) (ty : PySem.W.typeIn K (.ref C) = some (.type "type")) (ne : (t == .ref C) = false) (s : PySem.W.subIn K t (.ref C) = some b) : PySem.W.kitOne K t (.ref C) = some b := by
  obtain ⟨cd, hc, _⟩ := PySem.W.any_some hd
  have e : ((PySem.W.clsIn K C).isSome && PySem.W.typeIn K (.ref C) == some (.type "type")) = true := by rw [hc, ty] <;> rfl
  unfold PySem.W.kitOne
  rw [if_neg (by rw [ne]; exact Bool.false_ne_true)]
  show (if ((PySem.W.clsIn K C).isSome && PySem.W.typeIn K (.ref C) == some (.type "type")) = true then PySem.W.subIn K t (.ref C) else none) = some b
  rw [if_pos e]
  exact s
theorem kit_self {K : PySem.W.Frag} {C : Addr} : PySem.W.kitOne K (.ref C) (.ref C) = some true := by
  unfold PySem.W.kitOne
  rw [if_pos (by simp)]
theorem notFirst_of {K : PySem.W.Frag} {C : Addr} {t : Value} (s : PySem.W.subIn K t (.ref C) = some false) : PySem.W.notFirst K C t = true := by
  unfold PySem.W.notFirst
  rw [s]
  simp
theorem notFirst_self {K : PySem.W.Frag} {C : Addr} : PySem.W.notFirst K C (.ref C) = true := by
  unfold PySem.W.notFirst
  simp
/-! ## sizes of numbers -/
def Bt (n : Nat) (x : Int) : Prop := x.natAbs < 2 ^ n
theorem Bt.mono {n m : Nat} {x : Int} (h : Bt n x) (l : n ≤ m) : Bt m x := Nat.lt_of_lt_of_le h (Nat.pow_le_pow_right (by decide) l)
theorem Bt.mul {n m : Nat} {x y : Int} (h : Bt n x) (h' : Bt m y) : Bt (n + m) (x * y) := by
  unfold Bt at *
  rw [Int.natAbs_mul, Nat.pow_add]
  exact Nat.mul_lt_mul'' h h'
theorem Bt.add {n : Nat} {x y : Int} (h : Bt n x) (h' : Bt n y) : Bt (n + 1) (x + y) := by
  unfold Bt at *
  rw [Nat.pow_succ]
  omega
theorem Bt.sub {n : Nat} {x y : Int} (h : Bt n x) (h' : Bt n y) : Bt (n + 1) (x - y) := by
  unfold Bt at *
  rw [Nat.pow_succ]
  omega
theorem Bt.neg {n : Nat} {x : Int} (h : Bt n x) : Bt n (-x) := by
  unfold Bt at *
  omega
theorem Bt.le {n : Nat} {x y : Int} (h : Bt n y) (l : x.natAbs ≤ y.natAbs) : Bt n x := Nat.lt_of_le_of_lt l h
theorem Bt.cmul {n m : Nat} {x y : Int} (h : Bt n x) (h' : Bt m y) (l : n + m ≤ 134217728 := by decide) : CMulX x y := mulx_ok h h' l
theorem Bt.cdiv {n : Nat} {x y : Int} (p : 0 < y) (h : Bt n y) (l : 0 < n ∧ n ≤ 9000 := by decide) : CDivW x y := wide_div p h l.1 l.2
theorem Bt.addM {n m : Nat} {x y : Int} (h : Bt n x) (h' : Bt m y) : Bt (n + m + 1) (x + y) := Bt.add (h.mono (Nat.le_add_right n m)) (h'.mono (Nat.le_add_left m n))
theorem Bt.subM {n m : Nat} {x y : Int} (h : Bt n x) (h' : Bt m y) : Bt (n + m + 1) (x - y) := Bt.sub (h.mono (Nat.le_add_right n m)) (h'.mono (Nat.le_add_left m n))
theorem two200 : (2 : Nat) ^ 200 = 1606938044258990275541962092341162602522202993782792835301376 := by decide +kernel
theorem bt200 {x : Int} (h : -1606938044258990275541962092341162602522202993782792835301376 < x ∧ x < 1606938044258990275541962092341162602522202993782792835301376) : Bt 200 x := by
  unfold Bt
  rw [two200]
  omega
theorem bt200' {x : Int} (h : Bt 200 x) : -1606938044258990275541962092341162602522202993782792835301376 < x ∧ x < 1606938044258990275541962092341162602522202993782792835301376 := by
  unfold Bt at h
  rw [two200] at h
  omega
theorem atI_mem {xs : List V} {i : Int} (h0 : 0 ≤ i) (h1 : i < (xs.length : Int)) : ∃ v, atI xs i = some v ∧ v ∈ xs := by
  obtain ⟨n, rfl⟩ : ∃ n : Nat, i = (n : Int) := ⟨i.toNat, by omega⟩
  have hn : n < xs.length := by omega
  exact ⟨xs[n], atI_nat (List.getElem?_eq_getElem hn), List.getElem_mem hn⟩
theorem mem_at {xs : List V} {i : Nat} {v : V} (h : xs[i]? = some v) : v ∈ xs := List.mem_of_getElem? h
section
variable {H : Hp} {Q : VK} {i j : Int}
theorem u_maxL (k : ∀ m, (m = i ∨ m = j) → i ≤ m → j ≤ m → Q (.int m) H) : rMax2 [.int i, .int j] H Q := ⟨i, j, rfl, by
  by_cases h : j > i
  · rw [if_pos h]; exact k j (.inr rfl) (by omega) (by omega)
  · rw [if_neg h]; exact k i (.inl rfl) (by omega) (by omega)⟩
theorem u_minL (k : ∀ m, (m = i ∨ m = j) → m ≤ i → m ≤ j → Q (.int m) H) : rMin2 [.int i, .int j] H Q := ⟨i, j, rfl, by
  by_cases h : j < i
  · rw [if_pos h]; exact k j (.inr rfl) (by omega) (by omega)
  · rw [if_neg h]; exact k i (.inl rfl) (by omega) (by omega)⟩
theorem u_absL (k : ∀ m, 0 ≤ m → (m = i ∨ m = -i) → Q (.int m) H) : rAbs [.int i] H Q := ⟨i, rfl, by
  by_cases h : i < 0
  · rw [if_pos h]; exact k _ (by omega) (.inr rfl)
  · rw [if_neg h]; exact k _ (by omega) (.inl rfl)⟩
end
theorem bt256 {x : Int} (h : -10000000000000000000000000000000000000000000000000000000000000000000000 ≤ x ∧ x ≤ 10000000000000000000000000000000000000000000000000000000000000000000000) : Bt 256 x := by
  unfold Bt
  have e : (2 : Nat) ^ 256 = 115792089237316195423570985008687907853269984665640564039457584007913129639936 := by decide +kernel
  rw [e]
  omega
theorem cmulx_of {i j : Int} (h : (-10000000000000000000000000000000000000000000000000000000000000000000000 ≤ i ∧ i ≤ 10000000000000000000000000000000000000000000000000000000000000000000000) ∧ (-10000000000000000000000000000000000000000000000000000000000000000000000 ≤ j ∧ j ≤ 10000000000000000000000000000000000000000000000000000000000000000000000)) : CMulX i j := (bt256 h.1).cmul (bt256 h.2)
theorem two100 : (2 : Nat) ^ 100 = 1267650600228229401496703205376 := by decide +kernel
theorem bt100 {x : Int} (h : -1267650600228229401496703205376 < x ∧ x < 1267650600228229401496703205376) : Bt 100 x := by
  unfold Bt
  rw [two100]
  omega
theorem two170 : (2 : Nat) ^ 170 = 1496577676626844588240573268701473812127674924007424 := by decide +kernel
theorem bt170 {x : Int} (h : -1496577676626844588240573268701473812127674924007424 < x ∧ x < 1496577676626844588240573268701473812127674924007424) : Bt 170 x := by
  unfold Bt
  rw [two170]
  omega
theorem bt30 {x : Int} (h : -1073741824 < x ∧ x < 1073741824) : Bt 30 x := by
  unfold Bt
  have e : (2 : Nat) ^ 30 = 1073741824 := by decide +kernel
  rw [e]
  omega
/-! ## caught errors, asked for their classes -/
section
variable {K : PySem.W.Frag} {mg : Str → Option Value} {D a : Addr} {H : Hp} {Q : VK}
theorem kit_none {Cs : List Addr} (h : ∀ C ∈ Cs, PySem.W.kitOne K (.ref D) (.ref C) = some false) : PySem.W.kitAny K (.ref D) (Cs.map Value.ref) = some false := by
  induction Cs with
  | nil => rfl
  | cons C r ih => exact kitAny_cons (h C List.mem_cons_self) (fun _ => ih fun x hx => h x (List.mem_cons_of_mem _ hx)) (fun z => by cases z)
theorem cls_all : ∀ Cs : List Addr, Paired ClsV (Cs.map V.ref) (Cs.map Value.ref)
  | [] => .nil
  | C :: r => .cons (.own C) (cls_all r)
theorem kit_bty {T : String} {b : Bool} (m : PySem.W.kitMeta T = true) (s : PySem.W.subIn K (.ref D) (.type T) = some b) : PySem.W.kitOne K (.ref D) (.type T) = some b := by
  unfold PySem.W.kitOne
  rw [if_neg (by simp)]
  show (if PySem.W.kitMeta T = true then PySem.W.subIn K (.ref D) (.type T) else none) = some b
  rw [if_pos m]
  exact s
theorem meta_VE : PySem.W.kitMeta "ValueError" = true := by decide +kernel
theorem isE_self (e : ExcC K D) (q : Q (.bl true) H) : rIsE2 K (.ref D) none a [.ref a, .ref D] H Q := ⟨D, .ref D, .ref D, true, rfl, rfl, e, rfl, .own D, kit_self, q⟩
theorem isE_VE (e : ExcC K D) (s : PySem.W.subIn K (.ref D) (.type "ValueError") = some true) (q : Q (.bl true) H) : rIsE2 K (.ref D) none a [.ref a, .ty "ValueError"] H Q := ⟨D, .ty "ValueError", .type "ValueError", true, rfl, rfl, e, rfl, .ty "ValueError", kit_bty meta_VE s, q⟩
theorem isE_own {C : Addr} {b : Bool} (e : ExcC K D) (k : PySem.W.kitOne K (.ref D) (.ref C) = some b) (q : Q (.bl b) H) : rIsE2 K (.ref D) none a [.ref a, .ref C] H Q := ⟨D, .ref C, .ref C, b, rfl, rfl, e, rfl, .own C, k, q⟩
theorem isET_none (Cs : List Addr) {tp : Addr} (e : ExcC K D) (ht : H tp = some (.tup (Cs.map V.ref))) (h : ∀ C ∈ Cs, PySem.W.kitOne K (.ref D) (.ref C) = some false) (q : Q (.bl false) H) : rIsET K (.ref D) none a [.ref a, .ref tp] H Q :=
  ⟨D, tp, _, _, false, rfl, rfl, e, rfl, ht, cls_all Cs, kit_none h, q⟩
theorem ErrC.no {x : Str} {C : Addr} (h : ErrC K mg x C) (s : PySem.W.subIn K (.ref D) (.ref C) = some false ∧ D ≠ C) : PySem.W.kitOne K (.ref D) (.ref C) = some false :=
  kit_own h.e.hd h.t (by simpa using s.2) s.1
end
/-! ## the written part by its letter -/
section
variable {X : Cx} (K : PySem.W.Frag)
theorem ixlK (h : X.K = K := by rfl) : IxR X (rIxL K) := by subst h; exact ix_list
theorem ixtK (h : X.K = K := by rfl) : IxR X (rIxT K) := by subst h; exact ix_tup
theorem sllK (h : X.K = K := by rfl) : SlR X (rSlL K) := by subst h; exact sl_list
theorem sltK (h : X.K = K := by rfl) : SlR X (rSlT K) := by subst h; exact sl_tup
theorem lenK (h : X.K = K := by rfl) : CallR X (.builtin "len") (rLenA K) := by subst h; exact call_len_seq
theorem isiK (h : X.K = K := by rfl) : CallR X (.builtin "isinstance") (rIsi K) := by subst h; exact call_isi
theorem eqDK (hu : X.A.units + 64 < cLine) (h : X.K = K := by rfl) : OpR X (compareOp .Eq) (rEqD K) := by subst h; exact op_eqD hu
theorem neDK (hu : X.A.units + 64 < cLine) (h : X.K = K := by rfl) : OpR X (compareOp .NotEq) (rNeD K) := by subst h; exact op_neD hu
theorem catTK (h : X.K = K := by rfl) : OpR X (binaryOp .Add) (rCatT K) := by subst h; exact op_catT
theorem inK (h : X.K = K := by rfl) : OpR X (compareOp .In) (rIn K false) := by subst h; exact op_in_seq
theorem notInK (h : X.K = K := by rfl) : OpR X (compareOp .NotIn) (rIn K true) := by subst h; exact op_notIn_seq
theorem fldK {e : Expr} {f : Str} {ta : TE} {pos : Pos} (he : PE X e ta) (hb : attributeBase e f X.env (eval e X.env) = eval e X.env) (h : X.K = K := by rfl) : PE X (.Attribute e f pos) (tFld K ta f) := by subst h; exact pe_fld he hb
theorem piLK {tg l : Expr} {tl : TE} (hl : PE X l tl) (h : X.K = K := by rfl) : PI X tg l (iList K tl) := by subst h; exact pi_list hl
theorem piTK {tg l : Expr} {tl : TE} (hl : PE X l tl) (h : X.K = K := by rfl) : PI X tg l (iTup K tl) := by subst h; exact pi_tup hl
theorem pgTK (n : Nat) {es : List Expr} {k : Nat} {t : TGs} {pos : Pos} (hc : X.calm = true) (q : PGs X es t) (hn : (assignEach es X.env).length = n := by rfl) (hst : (assignEach es X.env).findIdx? (·.1) = none := by rfl) (h : X.K = K := by rfl) :
    PG X (.Tuple es k pos) (gTup K n t) := by subst h; exact pg_tup hc q hn hst
def rListOf : List V → Hp → VK → Prop := fun xs H Q => ∃ p ys, xs = [.ref p] ∧ (SqL K H p ys ∨ SqT K H p ys) ∧ ∀ l, H l = none → Q (.ref l) (upd H l (.lst ys))
theorem listK (h : X.K = K := by rfl) : CallR X (.type "list") (rListOf K) := by subst h; exact call_list_of
def rTupOf : List V → Hp → VK → Prop := fun xs H Q => ∃ p ys, xs = [.ref p] ∧ ((SqL K H p ys ∧ ∀ l, H l = none → Q (.ref l) (upd H l (.tup ys))) ∨ (SqT K H p ys ∧ Q (.ref p) H))
theorem tupK (h : X.K = K := by rfl) : CallR X (.type "tuple") (rTupOf K) := by subst h; exact call_tuple_of
end
section
variable {K : PySem.W.Frag} {H : Hp} {Q : VK} {p : Addr} {ys : List V}
theorem listOf_l (h : SqL K H p ys) (k : ∀ l H', H l = none → Kp [] H H' → H' l = some (.lst ys) → Q (.ref l) H') : rListOf K [.ref p] H Q := ⟨p, ys, rfl, .inl h, fun l hl => k l _ hl (Kp.new hl) upd_same⟩
theorem listOf_t (h : SqT K H p ys) (k : ∀ l H', H l = none → Kp [] H H' → H' l = some (.lst ys) → Q (.ref l) H') : rListOf K [.ref p] H Q := ⟨p, ys, rfl, .inr h, fun l hl => k l _ hl (Kp.new hl) upd_same⟩
theorem tupOf_l (h : SqL K H p ys) (k : ∀ l H', H l = none → Kp [] H H' → H' l = some (.tup ys) → Q (.ref l) H') : rTupOf K [.ref p] H Q := ⟨p, ys, rfl, .inl ⟨h, fun l hl => k l _ hl (Kp.new hl) upd_same⟩⟩
theorem tupOf_t (h : SqT K H p ys) (k : Q (.ref p) H) : rTupOf K [.ref p] H Q := ⟨p, ys, rfl, .inr ⟨h, k⟩⟩
/-- xs.append(y) -/
def BmQ (K : PySem.W.Frag) (T : String) (x : V) (H : Hp) (R : Prop) : Prop := tyV K T x H ∧ R
theorem u_bm {T : String} {r : V → List V → Hp → VK → Prop} {to : TE} {t : TA} {σ : L2.St} (h : to σ H fun x H1 => BmQ K T x H1 (t σ H1 fun xs H2 => r x xs H2 Q)) : tBM K T r to t σ H Q := h
theorem bm_list {R : Prop} {a : Addr} {xs : List V} (h : H a = some (.lst xs)) (q : R) : BmQ K "list" (.ref a) H R := ⟨.inl ⟨rfl, _, sql h⟩, q⟩
theorem u_append {l : Addr} {xs : List V} {y : V} (h : H l = some (.lst xs)) (hl : xs.length < 100000) (k : ∀ H', Kp [l] H H' → H' l = some (.lst (xs ++ [y])) → Q .non H') : rAppend (.ref l) [y] H Q :=
  ⟨l, xs, y, rfl, rfl, h, Nat.lt_of_lt_of_le hl (by decide), k _ Kp.mut upd_same⟩
end
/-! ## comprehensions -/
def EndQ (a b : L2.St) (R : Prop) : Prop := a = b ∧ R
theorem endQ {a b : L2.St} {R : Prop} (e : a = b) (h : R) : EndQ a b R := ⟨e, h⟩
def AppQ (D : Addr) (acc : List V) (y : V) (H : Hp) (P : Hp → Prop) : Prop := H D = some (.lst acc) ∧ acc.length < sizeLine ∧ ∀ H', Kp [D] H H' → H' D = some (.lst (acc ++ [y])) → P H'
theorem appQ {D : Addr} {acc : List V} {y : V} {H : Hp} {P : Hp → Prop} (h : H D = some (.lst acc)) (hl : acc.length < 100000) (k : ∀ H', Kp [D] H H' → H' D = some (.lst (acc ++ [y])) → P H') : AppQ D acc y H P := ⟨h, Nat.lt_of_lt_of_le hl (by decide), k⟩
def LcQ (J : It) (g : TG) (tt : TT) (te : TE) (vs : List Nat) (σ : L2.St) (Q : VK) (H1 : Hp) : Prop := ∀ D, H1 D = none → ∃ W : Nat → Nat → Hp → Prop, (∃ m, W 0 m (upd H1 D (.lst []))) ∧ ∀ i m H, W i m H →
  (J.stop i H ∧ Q (.ref D) H) ∨ (J.go i H ∧ ∃ Nx : Hp → Prop, (∀ H', Nx H' → ∃ m', m' < m ∧ W (i + 1) m' H') ∧ ∀ x H', J.yld i H x H' → g x (wipe σ vs) H' fun σ2 H2 => wipe σ2 vs = wipe σ vs ∧ tt σ2 H2 fun b H3 =>
    if b = true then te σ2 H3 fun y H4 => ∃ acc, H4 D = some (.lst acc) ∧ acc.length < sizeLine ∧ Nx (upd H4 D (.lst (acc ++ [y]))) else Nx H3)
section
variable {K : PySem.W.Frag} {g : TG} {tt : TT} {te : TE} {vs : List Nat} {σ : L2.St} {H : Hp} {Q : VK}
theorem u_lc {wi : TI} (h : wi σ H fun J H1 => LcQ J g tt te vs σ Q H1) : tLc wi g tt te vs σ H Q := h
theorem u_yes {Q : Bool → Hp → Prop} (q : Q true H) : tYes σ H Q := q
def AppE (D : Addr) (y : V) (H : Hp) (Nx : Hp → Prop) : Prop := ∃ acc, H D = some (.lst acc) ∧ acc.length < sizeLine ∧ Nx (upd H D (.lst (acc ++ [y])))
theorem appE {D : Addr} {acc : List V} {y : V} {Nx : Hp → Prop} (h : H D = some (.lst acc)) (hl : acc.length < 100000) (k : ∀ H', Kp [D] H H' → H' D = some (.lst (acc ++ [y])) → Nx H') : AppE D y H Nx :=
  ⟨acc, h, Nat.lt_of_lt_of_le hl (by decide), k _ Kp.mut upd_same⟩
theorem l_lcL {a : Addr} (xs : List V) (Pv : Addr → Nat → Hp → Prop) (h0 : ∀ D H', H D = none → Kp [] H H' → H' D = some (.lst []) → Pv D 0 H') (hl : ∀ D i H', i ≤ xs.length → Pv D i H' → SqL K H' a xs)
    (hs : ∀ D i x H', H D = none → xs[i]? = some x → Pv D i H' → g x (wipe σ vs) H' fun σ2 H2 => EndQ (wipe σ2 vs) (wipe σ vs) (tt σ2 H2 fun b H3 => Br b (fun H4 => te σ2 H4 fun y H5 => AppE D y H5 (Pv D (i + 1))) (Pv D (i + 1)) H3))
    (hd : ∀ D H', H D = none → Pv D xs.length H' → Q (.ref D) H') : LcQ (Itl K a) g tt te vs σ Q H := fun D hD =>
  lc_list (xs := xs) (Pv D) (h0 D _ hD (Kp.new hD) upd_same) (hl D) (fun i x H' hx p => hs D i x H' hD hx p) (fun H' p => hd D H' hD p)
theorem l_lcT {a : Addr} (xs : List V) (Pv : Addr → Nat → Hp → Prop) (h0 : ∀ D H', H D = none → Kp [] H H' → H' D = some (.lst []) → Pv D 0 H') (hl : ∀ D i H', i ≤ xs.length → Pv D i H' → SqT K H' a xs)
    (hs : ∀ D i x H', H D = none → xs[i]? = some x → Pv D i H' → g x (wipe σ vs) H' fun σ2 H2 => EndQ (wipe σ2 vs) (wipe σ vs) (tt σ2 H2 fun b H3 => Br b (fun H4 => te σ2 H4 fun y H5 => AppE D y H5 (Pv D (i + 1))) (Pv D (i + 1)) H3))
    (hd : ∀ D H', H D = none → Pv D xs.length H' → Q (.ref D) H') : LcQ (Itt K a) g tt te vs σ Q H := fun D hD =>
  lc_tup (xs := xs) (Pv D) (h0 D _ hD (Kp.new hD) upd_same) (hl D) (fun i x H' hx p => hs D i x H' hD hx p) (fun H' p => hd D H' hD p)
theorem l_lcR {lo : Int} {n : Nat} (Pv : Addr → Nat → Hp → Prop) (h0 : ∀ D H', H D = none → Kp [] H H' → H' D = some (.lst []) → Pv D 0 H')
    (hs : ∀ D i H', H D = none → i < n → Pv D i H' → g (.int (lo + i)) (wipe σ vs) H' fun σ2 H2 => EndQ (wipe σ2 vs) (wipe σ vs) (tt σ2 H2 fun b H3 => Br b (fun H4 => te σ2 H4 fun y H5 => AppE D y H5 (Pv D (i + 1))) (Pv D (i + 1)) H3))
    (hd : ∀ D H', H D = none → Pv D n H' → Q (.ref D) H') : LcQ (Itr lo n) g tt te vs σ Q H := fun D hD =>
  lc_range (Pv D) (h0 D _ hD (Kp.new hD) upd_same) (fun i H' hx p => hs D i H' hD hx p) (fun H' p => hd D H' hD p)
end
/-! ## methods called, defs called in a try -/
def MethQ (C : Addr) (m : Str) (x : V) (H : Hp) (R : Prop) : Prop := ∃ a dx fs, x = .ref a ∧ H a = some (.ins C dx fs) ∧ fs.lookup m = none ∧ R
theorem u_meth {C : Addr} {m : Str} {sp : Sp} {E : XK} {ta : TE} {t : TA} {σ : L2.St} {H : Hp} {Q : VK} (h : ta σ H fun x H1 => MethQ C m x H1 (t σ H1 fun vs H2 => sp (x :: (vs ++ [])) H2 Q E)) : tMeth C m sp [] E ta t σ H Q := h
theorem u_callS {sp : Sp} {E : L2.St → XK} {t : TA} {σ : L2.St} {H : Hp} {Q : VK} (h : t σ H fun vs H1 => sp (vs ++ []) H1 Q (E σ)) : tCallS sp E t σ H Q := by
  have e : (fun (vs : List V) (H1 : Hp) => sp (vs ++ []) H1 Q (E σ)) = fun vs H1 => sp vs H1 Q (E σ) := by funext vs H1; rw [List.append_nil]
  rw [e] at h
  exact h
section
variable {X : Cx} {CX : CXT} {k : Nat} {C : Addr} {x m : Str} {ps : List Str} {sp : Sp} {E : XK} {p pos apos : Pos} {e o : Expr} {es : List Expr} {ta : TE} {t : TA}
theorem pe_mc {pl : Sem Bool} (F : Mc X.prog X.w X.K X.mg X.base CX k C m ps sp) (c : Cls X.K C) (hx : Passes CX X E) (hr : Room k X.A) (he : PE X o ta) (ha : PA X (e :: es) t)
    (hst : starEach (e :: es) X.env = (false, eval e X.env) :: starEach es X.env := by rfl) (hpl : (backTo pos (starEach es X.env)).any (·.1) = false := by rfl)
    (ht : eval (.Call (.Attribute o m apos) (e :: es) [] pos) X.env = (eval o X.env >>= fun ov => standAt apos.atName >>= fun _ => holding [ov] (getMethod ov m pl) >>= fun y => callWith pos y.1 y.2 (backTo pos (starEach (e :: es) X.env)) (backToKw pos (keywordEach [] X.env))) := by rfl) :
    PE X (.Call (.Attribute o m apos) (e :: es) [] pos) (tMeth C m sp [] E ta t) := by
  obtain ⟨f, fd, ok, a, i, kp, b⟩ := F
  exact pe_meth (pl := pl) he c ⟨a, i, kp⟩ ok hr b .nil hx ha hst hpl ht
theorem pe_fcS {E : L2.St → XK} (F : Fc X.prog X.w X.K X.mg X.base CX k x ps sp) (hx : ∀ σ, PassesAt CX X σ (E σ)) (hr : Room k X.A) (ha : PA X (e :: es) t) (hg : Gl X x := by rfl) (hdb : (x == ("__debug__" : Str)) = false := by decide)
    (he : starEach (e :: es) X.env = (false, eval e X.env) :: starEach es X.env := by rfl) (hpl : (backTo pos (starEach es X.env)).any (·.1) = false := by rfl) : PE X (.Call (.Name x p) (e :: es) [] pos) (tCallS sp E t) := by
  obtain ⟨f, fd, F, hm, hk, hb⟩ := F
  exact pe_callS F hr hg hm hk hb hx ha hdb he hpl
end
end U
set_option linter.all false
set_option autoImplicit false
namespace Fr
/-- t / b is u / d in lowest terms -/
def Fr (t b u d : Int) : Prop := 1 ≤ b ∧ Nat.gcd t.natAbs b.natAbs = 1 ∧ t * d = u * b
theorem Fr.val {t b U D U' D' : Int} (h : Fr t b U D) (hD : 1 ≤ D) (e : U * D' = U' * D) : Fr t b U' D' := by
  obtain ⟨h1, h2, h3⟩ := h
  refine ⟨h1, h2, ?_⟩
  have hne : D ≠ 0 := by omega
  refine Int.eq_of_mul_eq_mul_right hne ?_
  grind
theorem Fr.dvd {t b u d : Int} (h : Fr t b u d) : b.natAbs ∣ d.natAbs := by
  obtain ⟨h1, h2, h3⟩ := h
  have e : t.natAbs * d.natAbs = u.natAbs * b.natAbs := by rw [← Int.natAbs_mul, ← Int.natAbs_mul, h3]
  have hd : b.natAbs ∣ t.natAbs * d.natAbs := by rw [e]; exact Nat.dvd_mul_left _ _
  exact Nat.Coprime.dvd_of_dvd_mul_left (Nat.Coprime.symm h2) hd
theorem Fr.le {t b u d : Int} (h : Fr t b u d) (hd : 1 ≤ d) : b ≤ d := by
  have q := Nat.le_of_dvd (by omega) h.dvd
  omega
theorem Fr.absle {t b u d : Int} (h : Fr t b u d) (hd : 1 ≤ d) : t.natAbs ≤ u.natAbs := by
  have hb := h.le hd
  obtain ⟨h1, h2, h3⟩ := h
  have e : t.natAbs * d.natAbs = u.natAbs * b.natAbs := by rw [← Int.natAbs_mul, ← Int.natAbs_mul, h3]
  have l : b.natAbs ≤ d.natAbs := by omega
  have l2 : t.natAbs * d.natAbs ≤ u.natAbs * d.natAbs := by rw [e]; exact Nat.mul_le_mul_left _ l
  exact Nat.le_of_mul_le_mul_right l2 (by omega)
theorem Fr.init {u d : Int} (hd : 1 ≤ d) : Fr (u / ((Nat.gcd u.natAbs d.natAbs : Nat) : Int)) (d / ((Nat.gcd u.natAbs d.natAbs : Nat) : Int)) u d := by
  obtain ⟨g, hg⟩ : ∃ g, g = Nat.gcd u.natAbs d.natAbs := ⟨_, rfl⟩
  have gp : 0 < g := by rw [hg]; exact Nat.gcd_pos_of_pos_right _ (by omega)
  have du : ((g : Nat) : Int) ∣ u := by rw [hg]; exact Int.ofNat_dvd_left.mpr (Nat.gcd_dvd_left _ _)
  have dd : ((g : Nat) : Int) ∣ d := by rw [hg]; exact Int.ofNat_dvd_left.mpr (Nat.gcd_dvd_right _ _)
  rw [← hg]
  obtain ⟨a, ha⟩ := du
  obtain ⟨b, hb⟩ := dd
  have gne : ((g : Nat) : Int) ≠ 0 := by omega
  have ea : u / (g : Int) = a := by rw [ha]; exact Int.mul_ediv_cancel_left _ gne
  have eb : d / (g : Int) = b := by rw [hb]; exact Int.mul_ediv_cancel_left _ gne
  rw [ea, eb]
  have bp : 1 ≤ b := by
    rcases Int.lt_or_le b 1 with hlt | hle
    · have : (g : Int) * b ≤ 0 := Int.mul_nonpos_of_nonneg_of_nonpos (by omega) (by omega)
      omega
    · exact hle
  refine ⟨bp, ?_, ?_⟩
  · have e1 : u.natAbs = g * a.natAbs := by rw [ha, Int.natAbs_mul]; simp
    have e2 : d.natAbs = g * b.natAbs := by rw [hb, Int.natAbs_mul]; simp
    rw [e1, e2, Nat.gcd_mul_left] at hg
    have q : g * 1 = g * Nat.gcd a.natAbs b.natAbs := by rw [Nat.mul_one]; exact hg
    exact (Nat.eq_of_mul_eq_mul_left gp q).symm
  · rw [ha, hb]
    grind
theorem Fr.gpos {u d : Int} (hd : 1 ≤ d) : (0 : Int) < ((Nat.gcd u.natAbs d.natAbs : Nat) : Int) := by
  have := Nat.gcd_pos_of_pos_right u.natAbs (n := d.natAbs) (by omega)
  omega
theorem Fr.gle {u d : Int} (hd : 1 ≤ d) : ((Nat.gcd u.natAbs d.natAbs : Nat) : Int) ≤ d := by
  have := Nat.gcd_le_right u.natAbs (n := d.natAbs) (by omega)
  omega
theorem Fr.one {u : Int} {t b d : Int} (h : Fr t b u d) : Fr t b t b := ⟨h.1, h.2.1, rfl⟩
theorem Fr.eq_iff {t b u d t' b' u' d' : Int} (h : Fr t b u d) (h' : Fr t' b' u' d') (hd : 1 ≤ d) (hd' : 1 ≤ d') : (t = t' ∧ b = b') ↔ u * d' = u' * d := by
  constructor
  · rintro ⟨rfl, rfl⟩
    obtain ⟨h1, _, h3⟩ := h
    obtain ⟨_, _, h3'⟩ := h'
    refine Int.eq_of_mul_eq_mul_right (a := b) (by omega) ?_
    grind
  · intro e
    have g : Fr t b u' d' := h.val hd e
    have dv := g.dvd
    have e2 : t * b' = t' * b := by
      obtain ⟨h1, _, h3⟩ := g
      obtain ⟨_, _, h3'⟩ := h'
      refine Int.eq_of_mul_eq_mul_right (a := d') (by omega) ?_
      grind
    have f : Fr t b t' b' := ⟨h.1, h.2.1, e2⟩
    have f' : Fr t' b' t b := ⟨h'.1, h'.2.1, e2.symm⟩
    have l1 := f.le h'.1
    have l2 := f'.le h.1
    have eb : b = b' := by omega
    refine ⟨?_, eb⟩
    rw [eb] at e2
    have := h'.1
    exact Int.eq_of_mul_eq_mul_right (by omega) e2
theorem Fr.add {t b u d t' b' u' d' x y : Int} (h : Fr t b u d) (h' : Fr t' b' u' d') (s : Fr x y (t * b' + t' * b) (b * b')) : Fr x y (u * d' + u' * d) (d * d') := by
  refine s.val (Int.mul_pos h.1 h'.1) ?_
  obtain ⟨_, _, h3⟩ := h
  obtain ⟨_, _, h3'⟩ := h'
  grind
theorem Fr.sub {t b u d t' b' u' d' x y : Int} (h : Fr t b u d) (h' : Fr t' b' u' d') (s : Fr x y (t * b' - t' * b) (b * b')) : Fr x y (u * d' - u' * d) (d * d') := by
  refine s.val (Int.mul_pos h.1 h'.1) ?_
  obtain ⟨_, _, h3⟩ := h
  obtain ⟨_, _, h3'⟩ := h'
  grind
end Fr
set_option linter.all false
set_option autoImplicit false
namespace Fr
theorem Fr.mul {t b u d t' b' u' d' x y : Int} (h : Fr t b u d) (h' : Fr t' b' u' d') (s : Fr x y (t * t') (b * b')) : Fr x y (u * u') (d * d') := by
  refine s.val (Int.mul_pos h.1 h'.1) ?_
  obtain ⟨_, _, h3⟩ := h
  obtain ⟨_, _, h3'⟩ := h'
  grind
theorem mul_le_iff {a b c : Int} (hc : 0 < c) : a * c ≤ b * c ↔ a ≤ b := ⟨fun h => Int.le_of_mul_le_mul_right h hc, fun h => Int.mul_le_mul_of_nonneg_right h (Int.le_of_lt hc)⟩
theorem Fr.le_iff {t b u d t' b' u' d' : Int} (h : Fr t b u d) (h' : Fr t' b' u' d') (hd : 1 ≤ d) (hd' : 1 ≤ d') : t * b' ≤ t' * b ↔ u * d' ≤ u' * d := by
  have p : 0 < b * b' := Int.mul_pos h.1 h'.1
  have q : 0 < d * d' := Int.mul_pos hd hd'
  have e1 : (t * b') * (d * d') = (u * d') * (b * b') := by
    obtain ⟨_, _, h3⟩ := h
    grind
  have e2 : (t' * b) * (d * d') = (u' * d) * (b * b') := by
    obtain ⟨_, _, h3⟩ := h'
    grind
  rw [← mul_le_iff q, e1, e2, mul_le_iff p]
theorem Fr.pow {t b u d : Int} (h : Fr t b u d) (n : Nat) : Fr (t ^ n) (b ^ n) (t ^ n) (b ^ n) := by
  refine ⟨?_, ?_, rfl⟩
  · have : 0 < b ^ n := Int.pow_pos h.1
    omega
  · rw [Int.natAbs_pow, Int.natAbs_pow]
    exact Nat.Coprime.pow n n h.2.1
/-- the step of a power -/
theorem Fr.pow_step {t b u d x y : Int} (h : Fr t b u d) (n : Nat) (s : Fr x y (t ^ n * t) (b ^ n * b)) : x = t ^ (n + 1) ∧ y = b ^ (n + 1) := by
  have q := h.pow (n + 1)
  rw [← Int.pow_succ, ← Int.pow_succ] at s
  exact (Fr.eq_iff s q q.1 q.1).mpr rfl
theorem Fr.self_eq {x y : Int} {t b u d : Int} (h : Fr t b u d) (s : Fr x y t b) : x = t ∧ y = b := (Fr.eq_iff s h.one h.1 h.1).mpr rfl
theorem Fr.abs {t b u d : Int} (h : Fr t b u d) (hd : 1 ≤ d) : Fr (t.natAbs : Int) b (u.natAbs : Int) d := by
  obtain ⟨h1, h2, h3⟩ := h
  refine ⟨h1, by simpa using h2, ?_⟩
  have q := congrArg Int.natAbs h3
  rw [Int.natAbs_mul, Int.natAbs_mul] at q
  have e1 : ((t.natAbs * d.natAbs : Nat) : Int) = ((u.natAbs * b.natAbs : Nat) : Int) := by rw [q]
  have e2 : (d.natAbs : Int) = d := by omega
  have e3 : (b.natAbs : Int) = b := by omega
  rw [Int.natCast_mul, Int.natCast_mul, e2, e3] at e1
  exact e1
/-- the sum of a row -/
def sumStep (s : Int × Int) (f : Int × Int) : Int × Int := (s.1 * f.2 + f.1 * s.2, s.2 * f.2)
def sumRow (l : List (Int × Int)) : Int × Int := l.foldl sumStep (0, 1)
theorem take_more {α : Type} : ∀ {l : List α} {i : Nat} {x : α}, l[i]? = some x → l.take (i + 1) = l.take i ++ [x]
  | [], i, x, h => by simp at h
  | a :: l, 0, x, h => by simp at h; simp [h]
  | a :: l, i + 1, x, h => by
    have := take_more (l := l) (i := i) (x := x) (by simpa using h)
    simp [this]
theorem sum_more {l : List (Int × Int)} {i : Nat} {f : Int × Int} (h : l[i]? = some f) : sumRow (l.take (i + 1)) = sumStep (sumRow (l.take i)) f := by
  unfold sumRow
  rw [take_more h, List.foldl_append]
  rfl
/-- the greatest of a row -/
def bestStep (s : Int × Int) (f : Int × Int) : Int × Int := if f.1 * s.2 > s.1 * f.2 then f else s
def bestRow (l : List (Int × Int)) : Int × Int := l.foldl bestStep (0, 1)
theorem best_more {l : List (Int × Int)} {i : Nat} {f : Int × Int} (h : l[i]? = some f) : bestRow (l.take (i + 1)) = bestStep (bestRow (l.take i)) f := by
  unfold bestRow
  rw [take_more h, List.foldl_append]
  rfl
theorem le_trans' {a b c d e f : Int} (hb : 1 ≤ b) (hd : 1 ≤ d) (hf : 1 ≤ f) (h1 : a * d ≤ c * b) (h2 : c * f ≤ e * d) : a * f ≤ e * b := by
  have p : 0 < d := hd
  rw [← mul_le_iff p]
  have e1 : a * f * d = a * d * f := by grind
  have e2 : e * b * d = e * d * b := by grind
  rw [e1, e2]
  have q1 : a * d * f ≤ c * b * f := Int.mul_le_mul_of_nonneg_right h1 (by omega)
  have q2 : c * f * b ≤ e * d * b := Int.mul_le_mul_of_nonneg_right h2 (by omega)
  have e3 : c * b * f = c * f * b := by grind
  omega
theorem best_all : ∀ (l : List (Int × Int)) (s : Int × Int), 1 ≤ s.2 → (∀ f ∈ l, 1 ≤ f.2) → 1 ≤ (l.foldl bestStep s).2 ∧ s.1 * (l.foldl bestStep s).2 ≤ (l.foldl bestStep s).1 * s.2 ∧ ∀ f ∈ l, f.1 * (l.foldl bestStep s).2 ≤ (l.foldl bestStep s).1 * f.2
  | [], s, hs, _ => ⟨hs, Int.le_refl _, fun f hf => by cases hf⟩
  | g :: r, s, hs, hl => by
    have hg := hl g List.mem_cons_self
    have hm : 1 ≤ (bestStep s g).2 := by unfold bestStep; split <;> assumption
    have a1 : s.1 * (bestStep s g).2 ≤ (bestStep s g).1 * s.2 := by
      unfold bestStep; split
      · omega
      · exact Int.le_refl _
    have a2 : g.1 * (bestStep s g).2 ≤ (bestStep s g).1 * g.2 := by
      unfold bestStep; split
      · exact Int.le_refl _
      · omega
    obtain ⟨q1, q2, q3⟩ := best_all r (bestStep s g) hm fun f hf => hl f (List.mem_cons_of_mem _ hf)
    refine ⟨q1, le_trans' hs hm q1 a1 q2, fun f hf => ?_⟩
    rcases List.mem_cons.mp hf with rfl | hf
    · exact le_trans' hg hm q1 a2 q2
    · exact q3 f hf
theorem best_mem : ∀ (l : List (Int × Int)) (s : Int × Int), l.foldl bestStep s = s ∨ l.foldl bestStep s ∈ l
  | [], s => .inl rfl
  | g :: r, s => by
    show r.foldl bestStep (bestStep s g) = s ∨ r.foldl bestStep (bestStep s g) ∈ g :: r
    have h1 : bestStep s g = s ∨ bestStep s g = g := by unfold bestStep; split <;> simp
    rcases best_mem r (bestStep s g) with h | h
    · rw [h]
      rcases h1 with h1 | h1
      · exact .inl h1
      · rw [h1]; exact .inr List.mem_cons_self
    · exact .inr (List.mem_cons_of_mem _ h)
end Fr
set_option Elab.async false
set_option linter.all false
set_option autoImplicit false
set_option maxRecDepth 100000
set_option maxHeartbeats 4000000
namespace U
open PySem PySem.Spec PyProof.Rows L2
/-! ## str(x), x an own instance -/
section
variable {X : Cx} {CX : CXT} {n : Nat} {C : Addr} {ps : List Str} {sp : Sp} {E : XK}
def rStrOwn (C : Addr) (sp : Sp) (E : XK) : List V → Hp → VK → Prop := fun xs H Q => ∃ a dx fs, xs = [V.ref a] ∧ H a = some (.ins C dx fs) ∧ sp [.ref a] H (fun z H' => ∃ y, z = .str y ∧ Q z H') E
theorem call_strOwn (F : Mc X.prog X.w X.K X.mg X.base CX n C "__str__" ps sp) (hx : Passes CX X E) (hr : Room (n + 2) X.A) : CallR X (.type "str") (rStrOwn C sp E) := by
  obtain ⟨f, fd, ok, a, i, _, b⟩ := F
  intro pins s σ H xs us Q inv rel asked
  obtain ⟨p, dx, fs, rfl, hp, go⟩ := asked
  obtain ⟨u, rfl, ru⟩ := rel.one
  cases (show u = Value.ref p from ru)
  obtain ⟨_, J, _⟩ := ins_get inv.hok hp
  obtain ⟨_, J, _⟩ := J.look
  have r2 : Room n X.A.in1.in1 := (show Room (n + 1) X.A.in1 from Room.in1 hr).in1
  refine PySem.W.kso_call r2.units0 inv.kIn J a i ?_
  have len : [Value.ref p].length = ps.length := ok.len _ _ _ _ go
  have bd := b s [Value.ref p] inv.kIn (by rw [List.append_nil]; exact len)
  rw [List.append_nil] at bd
  refine wpAny_call (codeAny_mono (ok.run _ X.stack s H ⟨[.ref p], []⟩ [.ref p] [.ref p] _ E r2 inv.env0.in1.in1 bd (.cons rfl .nil) go) fun r s' hq => ?_)
  cases r with
  | error e => exact hx pins σ H s e s' inv hq
  | ok fl =>
    cases fl with
    | ret u =>
      obtain ⟨v, H3, J3, rv, y, ey, q⟩ := inv.after hq
      subst ey
      obtain ⟨t, e⟩ := (show ∃ t, u = Value.str y t from rv)
      subst e
      exact ⟨.str y, H3, J3, ⟨t, rfl⟩, q⟩
    | next => exact hq.elim
    | brk => exact hq.elim
    | cont => exact hq.elim
end
/-! ## static methods -/
/-- C.m is a staticmethod: its record at p, its def at g -/
structure SmC (K : PySem.W.Frag) (C : Addr) (mc : Value) (m : Str) (p g : Addr) : Prop where
  rd : PySem.W.readsIn K C mc = true
  ga : PySem.W.specialIn K (.ref C) "__getattribute__" = some (some (.builtin "type.__getattribute__"))
  at_ : PySem.W.findCls K (.ref C) mc m = some (.get (.builtin "staticmethod.__get__") (.ref p) .none (.ref C))
  rc : ∃ rest, PySem.W.recIn K p "staticmethod" = some (.ref g :: rest)
/-- .. reached through an instance of C -/
structure SmI (K : PySem.W.Frag) (C : Addr) (m : Str) (p g : Addr) : Prop where
  pg : PySem.W.plainGet K C Str.empty = true
  ic : PySem.W.isClsIn K C = true
  at_ : PySem.W.findIn K (.ref C) m = some (some (.ref p))
  ty : PySem.W.typeIn K (.ref p) = some (.type "staticmethod")
  get : PySem.W.specialIn K (.ref p) "__get__" = some (some (.builtin "staticmethod.__get__"))
  tk : PySem.W.takesIn K (.ref p) = some false
  cp : PySem.W.copiedNames.contains m = false
  rc : ∃ rest, PySem.W.recIn K p "staticmethod" = some (.ref g :: rest)
/-- C.m(..) -/
def tSm (C : Addr) (sp : Sp) (E : L2.St → XK) (ta : TE) (t : TA) : TE := fun σ H Q => ta σ H fun x H1 => x = .ref C ∧ t σ H1 fun vs H2 => sp vs H2 Q (E σ)
def tSmI (C : Addr) (m : Str) (sp : Sp) (E : L2.St → XK) (ta : TE) (t : TA) : TE := fun σ H Q => ta σ H fun x H1 => MethQ C m x H1 (t σ H1 fun vs H2 => sp vs H2 Q (E σ))
section
variable {X : Cx} {CX : CXT} {k : Nat} {C p g : Addr} {mc : Value} {ps : List Str} {sp : Sp} {E : L2.St → XK} {o e : Expr} {es : List Expr} {m : Str} {pos apos : Pos} {ta : TE} {t : TA} {pl : Sem Bool} {fd : FuncData}
theorem pe_sm (S : SmC X.K C mc m p g) (F : FnOk X.prog X.w X.K X.mg X.base CX k g fd ps sp) (hk : PySem.W.keepIn X.K (.ref g) = true) (hb : Binds X.K fd ps []) (hx : ∀ σ, PassesAt CX X σ (E σ)) (hr : Room k X.A) (he : PE X o ta) (ha : PA X (e :: es) t)
    (hst : starEach (e :: es) X.env = (false, eval e X.env) :: starEach es X.env := by rfl) (hpl : (backTo pos (starEach es X.env)).any (·.1) = false := by rfl)
    (ht : eval (.Call (.Attribute o m apos) (e :: es) [] pos) X.env = (do
      let ov ← eval o X.env
      standAt apos.atName
      let (f, first) ← holding [ov] (getMethod ov m pl)
      callWith pos f first (backTo pos (starEach (e :: es) X.env)) (backToKw pos (keywordEach [] X.env))) := by rfl) :
    PE X (.Call (.Attribute o m apos) (e :: es) [] pos) (tSm C sp E ta t) := by
  refine ⟨fun pins s σ H Q I h => ?_⟩
  refine PySem.W.methodCall_KW (pl := pl) (thn (he.run pins s σ H _ I h) fun u s1 ⟨x, H1, I1, rx, ex, q⟩ => ?_) ht
  subst ex
  obtain rfl : u = Value.ref C := rx
  obtain ⟨rest, hp⟩ := S.rc
  refine PySem.W.method_cls I1.kIn S.ga (PySem.W.cls_bind I1.kIn S.rd S.at_ ?_)
  refine wpAny_call (PySem.W.sm_get (s := { s1 with toks := s1.toks + 1 }) I1.kIn hp (PySem.W.handed_on rfl ?_))
  have I2 : Inv X pins σ H1 { s1 with toks := s1.toks + 1 } := I1.tok _
  refine PySem.W.callWith_K (h₀ := X.base) (first := []) I.ok.mod.kin hk (thn (ha.run pos pins _ σ H1 _ I2 q) fun us s3 ⟨vs, H2, I3, rv, q2⟩ => ⟨I3.kIn, ?_⟩) hst hpl
  exact run_fnS F hr hb (hx σ) I3 rv q2
theorem pe_smI (S : SmI X.K C m p g) (F : FnOk X.prog X.w X.K X.mg X.base CX k g fd ps sp) (hk : PySem.W.keepIn X.K (.ref g) = true) (hb : Binds X.K fd ps []) (hx : ∀ σ, PassesAt CX X σ (E σ)) (hr : Room k X.A) (he : PE X o ta) (ha : PA X (e :: es) t)
    (hst : starEach (e :: es) X.env = (false, eval e X.env) :: starEach es X.env := by rfl) (hpl : (backTo pos (starEach es X.env)).any (·.1) = false := by rfl)
    (ht : eval (.Call (.Attribute o m apos) (e :: es) [] pos) X.env = (do
      let ov ← eval o X.env
      standAt apos.atName
      let (f, first) ← holding [ov] (getMethod ov m pl)
      callWith pos f first (backTo pos (starEach (e :: es) X.env)) (backToKw pos (keywordEach [] X.env))) := by rfl) :
    PE X (.Call (.Attribute o m apos) (e :: es) [] pos) (tSmI C m sp E ta t) := by
  refine ⟨fun pins s σ H Q I h => ?_⟩
  refine PySem.W.methodCall_KW (pl := pl) (thn (he.run pins s σ H _ I h) fun u s1 ⟨x, H1, I1, rx, a, dx, fs, ex, ea, l, q⟩ => ?_) ht
  subst ex
  obtain rfl : u = Value.ref a := rx
  obtain ⟨mA, O, rr, _, _, _⟩ := ins_get I1.hok ea
  have hn : mA m = none := RelO.none_of (by rw [← l]; exact rr m)
  obtain ⟨od, J, hl⟩ := O.look
  obtain ⟨rest, hp⟩ := S.rc
  refine PySem.W.method_usual (r := some (.ref p)) I1.kIn J (PySem.W.plainGet_of (name := m) S.pg).1 (PySem.W.plainGet_of (name := m) S.pg).2 S.at_ ?_ ?_
  · show ((PySem.W.typeIn X.K (.ref p)).any fun t => t != .type "function" && t != .type "method_descriptor" && t != .type "wrapper_descriptor") = true
    rw [S.ty]
    first
    | rfl
    | decide +kernel
  · refine PySem.W.get_bind I1.kIn J (PySem.W.plainGet_of (name := m) S.pg).1 (ClX.find_cm S.ic S.at_ S.get S.tk S.cp (by rw [hl m, hn])) (PySem.W.plainGet_of (name := m) S.pg).2 ?_
    refine wpAny_call (PySem.W.sm_get (s := { s1 with toks := s1.toks + 1 }) I1.kIn hp (PySem.W.handed_on rfl ?_))
    have I2 : Inv X pins σ H1 { s1 with toks := s1.toks + 1 } := I1.tok _
    refine PySem.W.callWith_K (h₀ := X.base) (first := []) I.ok.mod.kin hk (thn (ha.run pos pins _ σ H1 _ I2 q) fun us s3 ⟨vs, H2, I3, rv, q2⟩ => ⟨I3.kIn, ?_⟩) hst hpl
    exact run_fnS F hr hb (hx σ) I3 rv q2
end
/-! ## texts -/
abbrev TS_ := SX.S
def rFind : V → List V → Hp → VK → Prop := fun x xs H Q => ∃ a b, x = .str a ∧ xs = [.str b] ∧ Q (.int (Txt.find a b)) H
def rPart : V → List V → Hp → VK → Prop := fun x xs H Q => ∃ a b, x = .str a ∧ xs = [.str b] ∧ (b.length == 0) = false ∧ a.length ≤ sizeLine ∧
    ∀ p, H p = none → Q (.ref p) (upd H p (.tup [.str (Txt.partition a b).1, .str (Txt.partition a b).2.1, .str (Txt.partition a b).2.2]))
def rRmp : V → List V → Hp → VK → Prop := fun x xs H Q => ∃ a b, x = .str a ∧ xs = [.str b] ∧ a.length ≤ sizeLine ∧ Q (.str (Txt.removeprefix a b)) H
def rAsc : V → List V → Hp → VK → Prop := fun x xs H Q => ∃ a, x = .str a ∧ xs = [] ∧ True ∧ Q (.bl (Txt.isascii a)) H
def rDgt : V → List V → Hp → VK → Prop := fun x xs H Q => ∃ a, x = .str a ∧ xs = [] ∧ True ∧ Q (.bl (Txt.isdigit a)) H
def rAddS : R2 := fun x y H Q => ∃ i j, x = .str i ∧ y = .str j ∧ i.length + j.length ≤ sizeLine ∧ Q (.str (i ++ j)) H
def rLenS : List V → Hp → VK → Prop := fun xs H Q => ∃ z, xs = [.str z] ∧ z.length ≤ sizeLine ∧ Q (.int z.length) H
def rStrI : List V → Hp → VK → Prop := fun xs H Q => ∃ i, xs = [.int i] ∧ i.natAbs.log2 < 1920 ∧ Q (.str (toString i)) H
def rIntS : List V → Hp → VK → Prop := fun xs H Q => ∃ a n, xs = [.str a] ∧ PySem.intText? a = some n ∧ a.length ≤ 640 ∧ Q (.int n) H
def rInS : R2 := fun x y H Q => ∃ (c : Nat) (z : Str), x = .str ⟨#[c]⟩ ∧ y = .str z ∧ Q (.bl (decide (c ∈ z.cps.toList))) H
def rNiS : R2 := fun x y H Q => ∃ (c : Nat) (z : Str), x = .str ⟨#[c]⟩ ∧ y = .str z ∧ Q (.bl (!decide (c ∈ z.cps.toList))) H
def rIsN : R2 := fun x y H Q => y = .non ∧ Q (.bl (decide (x = .non))) H
def rNoN : R2 := fun x y H Q => y = .non ∧ Q (.bl (!decide (x = .non))) H
def rRepS : R2 := fun x y H Q => ∃ (c : Nat) (n : Int), x = .str ⟨#[c]⟩ ∧ y = .int n ∧ -100000 ≤ n ∧ n ≤ 100000 ∧ Q (.str (Txt.mul ⟨#[c]⟩ n)) H
section
variable {X : Cx}
theorem m_find : MtR X "str.find" rFind := mt_find
theorem m_part : MtR X "str.partition" rPart := mt_partition
theorem m_rmp : MtR X "str.removeprefix" rRmp := mt_removeprefix
theorem m_asc : MtR X "str.isascii" rAsc := mt_isascii
theorem m_dgt : MtR X "str.isdigit" rDgt := mt_isdigit
theorem o_addS : OpR X (binaryOp .Add) rAddS := op_add_str
theorem c_lenS : CallR X (.builtin "len") rLenS := call_len_str
theorem c_strI : CallR X (.type "str") rStrI := call_str_int
theorem c_intS : CallR X (.type "int") rIntS := call_int_str
theorem o_inS : OpR X (compareOp .In) rInS := op_in_sign
theorem o_niS : OpR X (compareOp .NotIn) rNiS := op_notIn_sign
theorem o_isN : OpR X (compareOp .Is) rIsN := op_isN
theorem o_noN : OpR X (compareOp .IsNot) rNoN := op_notN
theorem mulOk1 {c : Nat} {n : Int} (h0 : -100000 ≤ n) (h1 : n ≤ 100000) : MulOk ⟨#[c]⟩ n := by
  have l1 : (⟨#[c]⟩ : Str).length = 1 := rfl
  refine ⟨?_, fun p _ => ?_, fun p _ => ?_⟩
  · rw [Bool.or_eq_false_iff]
    exact ⟨decide_eq_false (by omega), decide_eq_false (by omega)⟩
  · rw [l1]
    have : (1 : Int) ≤ (2 ^ 63 - 1) / n := (Int.le_ediv_iff_mul_le (by omega)).mpr (by omega)
    omega
  · rw [l1]
    unfold Builtin.Str.tooLong
    refine decide_eq_false ?_
    have e : sizeLine = 16777216 := by decide
    rw [e]
    omega
theorem o_repS : OpR X (binaryOp .Mult) rRepS := by
  intro pins s σ H x y v u Q I rx ry h
  obtain ⟨c, n, rfl, rfl, h0, h1, q⟩ := h
  obtain ⟨t, rfl⟩ := rx
  obtain ⟨t', rfl⟩ := ry
  exact PySem.SB.mul (mulOk1 h0 h1) fun t' k => ⟨.str _, H, I.tok _, ⟨_, rfl⟩, q⟩
end
section
variable {σ : L2.St} {H : Hp} {Q : VK} {K : PySem.W.Frag} {a b : Str} {i : Int} {c : Nat}
theorem bm_str {R : Prop} (q : R) : BmQ K "str" (.str a) H R := ⟨rfl, q⟩
theorem u_bm0 {T : String} {r : V → List V → Hp → VK → Prop} {to : TE} (h : to σ H fun x H1 => BmQ K T x H1 (r x [] H1 Q)) : tBM0 K T r to σ H Q := h
theorem sl5 {n : Nat} (h : n ≤ 100000) : n ≤ sizeLine := Nat.le_trans h (by decide)
theorem u_find (q : Q (.int (Txt.find a b)) H) : rFind (.str a) [.str b] H Q := ⟨a, b, rfl, rfl, q⟩
theorem u_partS (hb : (b.length == 0) = false) (ha : a.length ≤ 100000) (k : ∀ p H', H p = none → Kp [] H H' → H' p = some (.tup [.str (Txt.partition a b).1, .str (Txt.partition a b).2.1, .str (Txt.partition a b).2.2]) → Q (.ref p) H') : rPart (.str a) [.str b] H Q :=
  ⟨a, b, rfl, rfl, hb, sl5 ha, fun p hp => k p _ hp (Kp.new hp) upd_same⟩
theorem u_rmp (ha : a.length ≤ 100000) (q : Q (.str (Txt.removeprefix a b)) H) : rRmp (.str a) [.str b] H Q := ⟨a, b, rfl, rfl, sl5 ha, q⟩
theorem u_asc (q : Q (.bl (Txt.isascii a)) H) : rAsc (.str a) [] H Q := ⟨a, rfl, rfl, trivial, q⟩
theorem u_dgt (q : Q (.bl (Txt.isdigit a)) H) : rDgt (.str a) [] H Q := ⟨a, rfl, rfl, trivial, q⟩
theorem u_addS (h : a.length + b.length ≤ 100000) (q : Q (.str (a ++ b)) H) : rAddS (.str a) (.str b) H Q := ⟨a, b, rfl, rfl, sl5 h, q⟩
theorem u_lenS (h : a.length ≤ 100000) (q : Q (.int a.length) H) : rLenS [.str a] H Q := ⟨a, rfl, sl5 h, q⟩
theorem u_strI (h : i.natAbs.log2 < 1920) (q : Q (.str (toString i)) H) : rStrI [.int i] H Q := ⟨i, rfl, h, q⟩
theorem u_intS {n : Int} (e : PySem.intText? a = some n) (h : a.length ≤ 640) (q : Q (.int n) H) : rIntS [.str a] H Q := ⟨a, n, rfl, e, h, q⟩
theorem u_inS (q : Q (.bl (decide (c ∈ b.cps.toList))) H) : rInS (.str ⟨#[c]⟩) (.str b) H Q := ⟨c, b, rfl, rfl, q⟩
theorem u_niS (q : Q (.bl (!decide (c ∈ b.cps.toList))) H) : rNiS (.str ⟨#[c]⟩) (.str b) H Q := ⟨c, b, rfl, rfl, q⟩
theorem u_isNn (q : Q (.bl true) H) : rIsN .non .non H Q := ⟨rfl, q⟩
theorem u_isNr {p : Addr} (q : Q (.bl false) H) : rIsN (.ref p) .non H Q := ⟨rfl, q⟩
theorem u_repS (h0 : -100000 ≤ i) (h1 : i ≤ 100000) (q : Q (.str (Txt.mul ⟨#[c]⟩ i)) H) : rRepS (.str ⟨#[c]⟩) (.int i) H Q := ⟨c, i, rfl, rfl, h0, h1, q⟩
theorem u_ixS (ha : a.length ≤ 100000) (h0 : 0 ≤ i) (h1 : i < a.length) (k : ∀ c, atI a.cps.toList i = some c → Q (.str ⟨#[c]⟩) H) : rIxS (.str a) (.int i) H Q := by
  have h2 : i < (a.cps.toList.length : Int) := by rw [Array.length_toList]; exact h1
  obtain ⟨n, rfl⟩ : ∃ n : Nat, i = (n : Int) := ⟨i.toNat, by omega⟩
  have hn : n < a.cps.toList.length := by omega
  have e : atI a.cps.toList (n : Int) = some a.cps.toList[n] := atI_nat (List.getElem?_eq_getElem hn)
  exact ⟨a, n, _, rfl, rfl, sl5 ha, e, k _ e⟩
theorem u_slX {lo hi : Option Int} (ha : a.length ≤ 100000) (q : Q (.str (Txt.slice a lo hi)) H) : C8.rSlX (.str a) lo hi H Q := ⟨a, rfl, sl5 ha, q⟩
def ItSq (x : V) (R : It → Hp → Prop) (H : Hp) : Prop := ∃ z, x = .str z ∧ R (Its z) H
theorem u_iS {tl : TE} {R : It → Hp → Prop} (h : tl σ H fun x H1 => ItSq x R H1) : iStr tl σ H R := h
theorem u_iSq {R : It → Hp → Prop} (q : R (Its a) H) : ItSq (.str a) R H := ⟨a, rfl, q⟩
theorem l_str {g : TG} {tb : TS} {D : Ends} (Pv : Nat → L2.St → Hp → Prop) (h0 : Pv 0 σ H)
    (hs : ∀ i c σ H, a.cps.toList[i]? = some c → Pv i σ H → g (.str ⟨#[c]⟩) σ H fun σ2 H2 => tb { D with nx := Pv (i + 1), ct := Pv (i + 1), bk := D.nx } σ2 H2) (hd : ∀ σ H, Pv a.cps.toList.length σ H → D.nx σ H) : LoopQ (Its a) g tb D σ H := by
  have hsz : a.cps.toList.length = a.cps.size := Array.length_toList
  refine ⟨fun i m σ H => m = a.cps.toList.length - i ∧ i ≤ a.cps.toList.length ∧ Pv i σ H, ⟨_, rfl, Nat.zero_le _, h0⟩, ?_⟩
  rintro i m σ H ⟨rfl, hi, p⟩
  by_cases hlt : i < a.cps.toList.length
  · refine .inr ⟨(by show i < a.cps.size; omega), Pv (i + 1), fun σ' H' p' => ⟨a.cps.toList.length - (i + 1), by omega, rfl, hlt, p'⟩, ?_⟩
    rintro x H' ⟨rfl, c, hc, rfl⟩
    exact hs i c σ _ (by rw [← hc, Array.getElem?_toList]) p
  · obtain rfl : i = a.cps.toList.length := by omega
    exact .inl ⟨by show a.cps.size ≤ _; omega, hd σ H p⟩
/-! f-strings -/
def JsQ (x : V) (acc : Str) (H : Hp) (R : Str → Prop) : Prop := ∃ y : Str, x = .str y ∧ (acc ++ y).length ≤ sizeLine ∧ R (acc ++ y)
theorem js_nil {acc : Str} {Q : Str → Hp → Prop} (q : Q acc H) : tJs [] acc σ H Q := q
theorem js_cons {t : TE} {ts : List TE} {acc : Str} {Q : Str → Hp → Prop} (h : t σ H fun x H1 => JsQ x acc H1 fun out => tJs ts out σ H1 Q) : tJs (t :: ts) acc σ H Q := h
theorem jsQ {acc y : Str} {R : Str → Prop} (h : acc.length + y.length ≤ 100000) (q : R (acc ++ y)) : JsQ (.str y) acc H R := ⟨y, rfl, by rw [Str.length_append]; exact sl5 h, q⟩
def tJoin (ts : List TE) : TE := fun σ H Q => tJs ts Str.empty σ H fun out H1 => Q (.str out) H1
theorem u_join {ts : List TE} (h : tJs ts Str.empty σ H fun out H1 => Q (.str out) H1) : tJoin ts σ H Q := h
theorem pe_join {X : Cx} {v1 v2 : Expr} {rest : List Expr} {ts : List TE} {pos : Pos} (h : PJ X (v1 :: v2 :: rest) ts) : PE X (.JoinedStr (v1 :: v2 :: rest) pos) (tJoin ts) := pe_joined h
def FmtQ (x : V) (H : Hp) (Q : VK) : Prop := (∃ y : Str, x = .str y ∧ y.length ≤ sizeLine ∧ Q (.str y) H) ∨ ∃ i : Int, x = .int i ∧ i.natAbs.log2 < 1920 ∧ Q (.str (toString i)) H
theorem u_fmt {te : TE} (h : te σ H fun x H1 => FmtQ x H1 Q) : tFmt te σ H Q := h
theorem fmtI (h : i.natAbs.log2 < 1920) (q : Q (.str (toString i)) H) : FmtQ (.int i) H Q := .inr ⟨i, rfl, h, q⟩
theorem fmtS (h : a.length ≤ 100000) (q : Q (.str a) H) : FmtQ (.str a) H Q := .inl ⟨a, rfl, sl5 h, q⟩
/-! static methods, str of own -/
theorem u_sm {C : Addr} {sp : Sp} {E : L2.St → XK} {ta : TE} {t : TA} (h : ta σ H fun x H1 => x = .ref C ∧ t σ H1 fun vs H2 => sp vs H2 Q (E σ)) : tSm C sp E ta t σ H Q := h
def SmQ (C : Addr) (x : V) (R : Prop) : Prop := x = .ref C ∧ R
theorem u_smQ {C : Addr} {sp : Sp} {E : L2.St → XK} {ta : TE} {t : TA} (h : ta σ H fun x H1 => SmQ C x (t σ H1 fun vs H2 => sp vs H2 Q (E σ))) : tSm C sp E ta t σ H Q := h
theorem smQ {C : Addr} {R : Prop} (q : R) : SmQ C (.ref C) R := ⟨rfl, q⟩
theorem u_smI {C : Addr} {m : Str} {sp : Sp} {E : L2.St → XK} {ta : TE} {t : TA} (h : ta σ H fun x H1 => MethQ C m x H1 (t σ H1 fun vs H2 => sp vs H2 Q (E σ))) : tSmI C m sp E ta t σ H Q := h
end
section
variable {X : Cx} {H : Hp} {Q : VK}
theorem o_catL : OpR X (binaryOp .Add) rCat := op_cat
theorem u_catL {l m : Addr} {xs zs : List V} (h1 : H l = some (.lst xs)) (h2 : H m = some (.lst zs)) (hz : xs.length + zs.length ≤ 100000) (k : ∀ p H', H p = none → Kp [] H H' → H' p = some (.lst (xs ++ zs)) → Q (.ref p) H') : rCat (.ref l) (.ref m) H Q :=
  ⟨l, m, xs, zs, rfl, rfl, h1, h2, sl5 hz, fun p hp => k p _ hp (Kp.new hp) upd_same⟩
end
/-- a static method: found off the class and off an instance, and its promise -/
def NcSm (P : Program) (w : World) (K : PySem.W.Frag) (mg : Str → Option Value) (base : Heap) (CX : CXT) (k : Nat) (C : Addr) (m : Str) (ps : List Str) (sp : Sp) : Prop :=
  ∃ p g fd, SmC K C (.type "type") m p g ∧ SmI K C m p g ∧ PySem.W.keepIn K (.ref g) = true ∧ FnOk P w K mg base CX k g fd ps sp ∧ Binds K fd ps []
section
variable {X : Cx} {CX : CXT} {k : Nat} {C : Addr} {ps : List Str} {sp : Sp} {E : L2.St → XK} {o e : Expr} {es : List Expr} {m : Str} {pos apos : Pos} {ta : TE} {t : TA}
theorem pe_smN {pl : Sem Bool} (F : NcSm X.prog X.w X.K X.mg X.base CX k C m ps sp) (hx : ∀ σ, PassesAt CX X σ (E σ)) (hr : Room k X.A) (he : PE X o ta) (ha : PA X (e :: es) t)
    (hst : starEach (e :: es) X.env = (false, eval e X.env) :: starEach es X.env := by rfl) (hpl : (backTo pos (starEach es X.env)).any (·.1) = false := by rfl)
    (ht : eval (.Call (.Attribute o m apos) (e :: es) [] pos) X.env = (do
      let ov ← eval o X.env
      standAt apos.atName
      let (f, first) ← holding [ov] (getMethod ov m pl)
      callWith pos f first (backTo pos (starEach (e :: es) X.env)) (backToKw pos (keywordEach [] X.env))) := by rfl) :
    PE X (.Call (.Attribute o m apos) (e :: es) [] pos) (tSm C sp E ta t) := by
  obtain ⟨p, g, fd, S, _, hk, F, b⟩ := F
  exact pe_sm (pl := pl) S F hk b hx hr he ha hst hpl ht
theorem pe_smJ {pl : Sem Bool} (F : NcSm X.prog X.w X.K X.mg X.base CX k C m ps sp) (hx : ∀ σ, PassesAt CX X σ (E σ)) (hr : Room k X.A) (he : PE X o ta) (ha : PA X (e :: es) t)
    (hst : starEach (e :: es) X.env = (false, eval e X.env) :: starEach es X.env := by rfl) (hpl : (backTo pos (starEach es X.env)).any (·.1) = false := by rfl)
    (ht : eval (.Call (.Attribute o m apos) (e :: es) [] pos) X.env = (do
      let ov ← eval o X.env
      standAt apos.atName
      let (f, first) ← holding [ov] (getMethod ov m pl)
      callWith pos f first (backTo pos (starEach (e :: es) X.env)) (backToKw pos (keywordEach [] X.env))) := by rfl) :
    PE X (.Call (.Attribute o m apos) (e :: es) [] pos) (tSmI C m sp E ta t) := by
  obtain ⟨p, g, fd, _, S, hk, F, b⟩ := F
  exact pe_smI (pl := pl) S F hk b hx hr he ha hst hpl ht
end
end U
set_option Elab.async false
set_option linter.all false
set_option autoImplicit false
set_option maxRecDepth 100000
set_option maxHeartbeats 4000000
namespace Tx
open PySem PySem.Spec PyProof.Rows C8 SX
abbrev Dg (l : List Nat) : Prop := ∀ c ∈ l, 48 ≤ c ∧ c ≤ 57
/-- digits as a number is written -/
def Canon (l : List Nat) : Prop := l ≠ [] ∧ Dg l ∧ (1 < l.length → l.head? ≠ some 48)
theorem dg_num (n : Nat) : Dg (TL.numL n) := TL.numL_digits n
theorem val_snoc (l : List Nat) (c : Nat) : NumText.digitsVal (l ++ [c]) = NumText.digitsVal l * 10 + (c - 48) := by
  unfold NumText.digitsVal
  rw [List.foldl_append]
  rfl
theorem num_head : ∀ n : Nat, 1 ≤ n → (TL.numL n).head? ≠ some 48 := by
  intro n
  induction n using Nat.strongRecOn with
  | _ n ih =>
    intro h
    by_cases h10 : n < 10
    · rw [TL.numL_lt h10]
      simp
      omega
    · rw [TL.numL_step (by omega)]
      have i := ih (n / 10) (by omega) (by omega)
      cases e : TL.numL (n / 10) with
      | nil => exact absurd e (TL.numL_ne _)
      | cons a r => rw [e] at i; simpa using i
theorem canon_num (n : Nat) : Canon (TL.numL n) := by
  refine ⟨TL.numL_ne n, dg_num n, fun h => ?_⟩
  by_cases h0 : n = 0
  · subst h0
    rw [TL.numL_lt (by decide)] at h
    simp at h
  · exact num_head n (by omega)
theorem num_back : ∀ (k : Nat) (l : List Nat), l.length = k → Canon l → TL.numL (NumText.digitsVal l) = l := by
  intro k
  induction k with
  | zero => intro l hl h; exact absurd (List.eq_nil_of_length_eq_zero hl) h.1
  | succ k ih =>
    intro l hl h
    obtain ⟨l', c, rfl⟩ : ∃ l' c, l = l' ++ [c] := ⟨l.dropLast, l.getLast h.1, (List.dropLast_concat_getLast h.1).symm⟩
    have hc := h.2.1 c (by simp)
    rw [val_snoc]
    by_cases h0 : l' = []
    · subst h0
      have e : NumText.digitsVal [] = 0 := rfl
      rw [e, Nat.zero_mul, Nat.zero_add, TL.numL_lt (by omega)]
      simp
      omega
    · have hl' : l'.length = k := by simp at hl; omega
      have hd : (l' ++ [c]).head? = l'.head? := by
        cases l' with
        | nil => exact absurd rfl h0
        | cons a r => rfl
      have h1 : 1 < (l' ++ [c]).length := by
        have := List.length_pos_iff.mpr h0
        simp; omega
      have hn := h.2.2 h1
      rw [hd] at hn
      have i := ih l' hl' ⟨h0, fun x hx => h.2.1 x (by simp [hx]), fun _ => hn⟩
      have v1 : 1 ≤ NumText.digitsVal l' := by
        rcases Nat.eq_zero_or_pos (NumText.digitsVal l') with z | z
        · rw [z, TL.numL_lt (by decide)] at i
          rw [← i] at hn
          exact absurd rfl hn
        · exact z
      rw [TL.numL_step (by omega)]
      have e1 : (NumText.digitsVal l' * 10 + (c - 48)) / 10 = NumText.digitsVal l' := by omega
      have e2 : 48 + (NumText.digitsVal l' * 10 + (c - 48)) % 10 = c := by omega
      rw [e1, e2, i]
theorem num_of {l : List Nat} (h : Canon l) : TL.numL (NumText.digitsVal l) = l := num_back _ l rfl h
/-- an integer, written -/
def iL (i : Int) : List Nat := if i < 0 then 45 :: TL.numL i.natAbs else TL.numL i.natAbs
theorem str_int (i : Int) : Str.ofString (toString i) = S (iL i) := by
  unfold iL
  by_cases h : i < 0
  · rw [if_pos h]
    obtain ⟨n, rfl⟩ : ∃ n, i = Int.negSucc n := ⟨i.natAbs - 1, by omega⟩
    apply TL.ext_tl
    rw [TL.tl_ofString]
    show ("-" ++ Nat.repr (n + 1)).toList.map Char.toNat = _
    rw [String.toList_append, List.map_append, Nat.toList_repr]
    rfl
  · rw [if_neg h]
    obtain ⟨n, rfl⟩ := Int.eq_ofNat_of_zero_le (show 0 ≤ i by omega)
    exact num_S n
theorem num_inj {m n : Nat} (h : TL.numL m = TL.numL n) : m = n := TL.numL_inj h
theorem free47 (n : Nat) : 47 ∉ TL.numL n := TL.numL_free (by omega)
theorem free45 (n : Nat) : 45 ∉ TL.numL n := TL.numL_free (by omega)
theorem iL_free (i : Int) : 47 ∉ iL i := by
  unfold iL
  split
  · simp [free47]
  · exact free47 _
theorem iL_inj {i j : Int} (h : iL i = iL j) : i = j := by
  unfold iL at h
  split at h <;> split at h
  · have := num_inj (List.cons.inj h).2; omega
  · exact absurd (h ▸ List.mem_cons_self : 45 ∈ TL.numL j.natAbs) (free45 _)
  · exact absurd (h.symm ▸ List.mem_cons_self : 45 ∈ TL.numL i.natAbs) (free45 _)
  · have := num_inj h; omega
/-- the text of a share -/
def shL (t b : Int) : List Nat := iL t ++ 47 :: iL b
theorem app47 {p q p' q' : List Nat} (h1 : 47 ∉ p) (h2 : 47 ∉ p') (h : p ++ 47 :: q = p' ++ 47 :: q') : p = p' ∧ q = q' := by
  have e1 := par_head (c := 47) (sep := []) (p := p) q h1
  have e2 := par_head (c := 47) (sep := []) (p := p') q' h2
  have h' : p ++ ([47] ++ q) = p' ++ ([47] ++ q') := h
  rw [h', e2] at e1
  cases e1
  exact ⟨rfl, rfl⟩
theorem shL_inj {t b t' b' : Int} (h : shL t b = shL t' b') : t = t' ∧ b = b' := by
  obtain ⟨h1, h2⟩ := app47 (iL_free t) (iL_free t') h
  exact ⟨iL_inj h1, iL_inj h2⟩
/-- a text that a share is written by -/
def Good (a : List Nat) (t b : Int) : Prop := a = shL t b ∧ 1 ≤ b ∧ Nat.gcd t.natAbs b.natAbs = 1 ∧ (TL.numL t.natAbs).length ≤ 60 ∧ (TL.numL b.natAbs).length ≤ 60
theorem Good.uniq {a : List Nat} {t b t' b' : Int} (h : Good a t b) (h' : Good a t' b') : t = t' ∧ b = b' := shL_inj (h.1.symm.trans h'.1)
/-! ## what the words do -/
def isDg (l : List Nat) : Bool := decide (l ≠ []) && l.all fun c => decide (48 ≤ c ∧ c ≤ 57)
theorem isDg_iff {l : List Nat} : isDg l = true ↔ l ≠ [] ∧ Dg l := by
  unfold isDg
  rw [Bool.and_eq_true, decide_eq_true_iff, List.all_eq_true]
  simp only [decide_eq_true_iff]
theorem ascii_S (l : List Nat) : Txt.isascii (S l) = l.all (fun c => decide (c < 128)) := by
  unfold Txt.isascii
  simp [S]
theorem digit_S {l : List Nat} (h : l.all (fun c => decide (c < 128)) = true) : Txt.isdigit (S l) = isDg l := by
  unfold Txt.isdigit isDg
  have e1 : decide ((S l).length > 0) = decide (l ≠ []) := by
    rw [S_len]
    refine decide_eq_decide.mpr ?_
    cases l <;> simp
  have e2 : (S l).cps.all Unicode.isDigit = l.all fun c => decide (48 ≤ c ∧ c ≤ 57) := by
    show l.toArray.all Unicode.isDigit = _
    rw [List.all_toArray]
    rw [Bool.eq_iff_iff, List.all_eq_true, List.all_eq_true]
    rw [List.all_eq_true] at h
    have d : ∀ c, c < 128 → Unicode.isDigit c = decide (48 ≤ c ∧ c ≤ 57) := by decide +kernel
    constructor
    · intro g c hc
      have := h c hc
      rw [← d c (by simpa using this)]
      exact g c hc
    · intro g c hc
      have := h c hc
      rw [d c (by simpa using this)]
      exact g c hc
  rw [← e1, ← e2]
theorem split47 (a : List Nat) : (47 ∉ a) ∨ ∃ p q, a = p ++ 47 :: q ∧ 47 ∉ p := by
  induction a with
  | nil => exact .inl (by simp)
  | cons c r ih =>
    by_cases h : c = 47
    · exact .inr ⟨[], r, by rw [h]; rfl, by simp⟩
    · rcases ih with i | ⟨p, q, e, n⟩
      · exact .inl (by simp [i]; omega)
      · exact .inr ⟨c :: p, q, by rw [e]; rfl, by simp [n]; omega⟩
theorem pre47 {l : List Nat} : TL.pre [47] l = true ↔ l.head? = some 47 := by
  unfold TL.pre
  cases l with
  | nil => simp
  | cons c r => simp
theorem drop_head (a : List Nat) (i : Nat) : (a.drop i).head? = a[i]? := by
  rw [List.head?_drop]
theorem find_none {a : List Nat} (h : 47 ∉ a) : Txt.find (S a) (S [47]) = -1 := by
  rcases find_whole (S a) (S [47]) with ⟨e, _⟩ | ⟨i, _, at_, _⟩
  · exact e
  · exfalso
    have := (TL.at_iff (x := S a) (y := S [47]) (by show [47] ≠ []; simp) i).mp at_
    have q := pre47.mp this
    rw [show (TL.tl (S a)) = a from rfl, drop_head] at q
    exact h (List.mem_of_getElem? q)
theorem find_at {p q : List Nat} (h : 47 ∉ p) : Txt.find (S (p ++ 47 :: q)) (S [47]) = (p.length : Int) := by
  have hit : (p ++ 47 :: q)[p.length]? = some 47 := by simp
  have iff : ∀ i, StrLaws.At (S (p ++ 47 :: q)) (S [47]) (S (p ++ 47 :: q)).length i ↔ (p ++ 47 :: q)[i]? = some 47 := fun i =>
    (TL.at_iff (x := S (p ++ 47 :: q)) (y := S [47]) (by show [47] ≠ []; simp) i).trans (pre47.trans (by rw [show (TL.tl (S (p ++ 47 :: q))) = p ++ 47 :: q from rfl, drop_head]))
  rcases find_whole (S (p ++ 47 :: q)) (S [47]) with ⟨_, no⟩ | ⟨i, e, at_, no⟩
  · exact absurd ((iff _).mpr hit) (no _)
  · rw [e]
    have g := (iff i).mp at_
    rcases Nat.lt_trichotomy i p.length with l | l | l
    · rw [List.getElem?_append_left l] at g
      exact absurd (List.mem_of_getElem? g) h
    · rw [l]
    · exact absurd ((iff _).mpr hit) (no _ l)
/-- without the minus ahead -/
def noM (a : List Nat) : List Nat := if a.head? = some 45 then a.tail else a
theorem rmp (a : List Nat) : Txt.removeprefix (S a) (S [45]) = S (noM a) := by
  rw [StrLaws.removeprefix_eq]
  have l1 : (S [45]).length = 1 := rfl
  have sb : Builtin.Str.subAt (S a) (S [45]) 0 = decide (a.take 1 = [45]) := by
    unfold Builtin.Str.subAt
    rw [l1]
    show (a.toArray.extract 0 (0 + 1) == #[45]) = _
    rw [List.extract_toArray]
    rw [Bool.eq_iff_iff, beq_iff_eq, decide_eq_true_iff]
    simp [List.extract_eq_take_drop]
  rw [sb, l1, S_len]
  unfold noM
  cases a with
  | nil => rfl
  | cons c r =>
    by_cases h : c = 45
    · subst h
      simp [S]
    · simp [h, S]
/-- a minus or none, digits -/
theorem int_of {l : List Nat} (h : l ≠ []) (d : Dg l) (n : l.length ≤ 60) : intText? (S l) = some ((NumText.digitsVal l : Nat) : Int) :=
  intText_digits (x := S l) d h (by rw [S_len]; omega)
theorem int_neg {l : List Nat} (h : l ≠ []) (d : Dg l) (n : l.length ≤ 60) : intText? (S (45 :: l)) = some (-((NumText.digitsVal l : Nat) : Int)) :=
  intText_neg (x := S (45 :: l)) (cs := l) rfl d h (by rw [S_len]; simp; omega)
theorem noM_iL (t : Int) : noM (iL t) = TL.numL t.natAbs := by
  unfold iL noM
  split
  · simp
  · rw [if_neg]
    intro z
    exact free45 t.natAbs (List.mem_of_mem_head? z)
theorem int_iL {t : Int} (n : (TL.numL t.natAbs).length ≤ 60) : intText? (S (iL t)) = some t := by
  unfold iL
  split
  · rw [int_neg (TL.numL_ne _) (dg_num _) n, TL.numL_val]
    congr 1; omega
  · rw [int_of (TL.numL_ne _) (dg_num _) n, TL.numL_val]
    congr 1; omega
/-- the program's parts: a top and a bottom that are numbers -/
theorem int_any {p : List Nat} (h : noM p ≠ []) (d : Dg (noM p)) (n : (noM p).length ≤ 60) : ∃ i : Int, intText? (S p) = some i ∧ i.natAbs = NumText.digitsVal (noM p) := by
  unfold noM at h d n ⊢
  split at h
  · rename_i z
    rw [if_pos z] at d n ⊢
    cases p with
    | nil => simp at z
    | cons c r =>
      have hc : c = 45 := by simpa using z
      subst hc
      refine ⟨_, int_neg h d n, by simp⟩
  · rename_i z
    rw [if_neg z] at d n ⊢
    exact ⟨_, int_of h d n, by simp⟩
theorem val_lt : ∀ (k : Nat) (l : List Nat), l.length = k → Dg l → NumText.digitsVal l < 10 ^ k := by
  intro k
  induction k with
  | zero => intro l hl _; rw [List.eq_nil_of_length_eq_zero hl]; decide
  | succ k ih =>
    intro l hl d
    have hn : l ≠ [] := by intro z; rw [z] at hl; cases hl
    obtain ⟨l', c, rfl⟩ : ∃ l' c, l = l' ++ [c] := ⟨l.dropLast, l.getLast hn, (List.dropLast_concat_getLast hn).symm⟩
    have h1 := ih l' (by simp at hl; omega) fun x hx => d x (by simp [hx])
    have h2 := d c (by simp)
    rw [val_snoc, Nat.pow_succ]
    omega
end Tx
set_option Elab.async false
set_option linter.all false
set_option autoImplicit false
set_option maxRecDepth 100000
set_option maxHeartbeats 4000000
namespace U
open PySem PySem.Spec PyProof.Rows L2
/-! # data at values: numbers, texts, tuples of them -/
def TupAt (K : PySem.W.Frag) (H : Hp) (a : Addr) (xs : List V) : Prop := H a = some (.tup xs)
theorem TupAt.sq {K : PySem.W.Frag} {H : Hp} {a : Addr} {xs : List V} (h : TupAt K H a xs) : SqT K H a xs := by
  exact .of h
/-- tuples stand, and so do the things in Z -/
def Im (Z : List Addr) (H H' : Hp) : Prop := (∀ a xs, H a = some (.tup xs) → H' a = some (.tup xs)) ∧ ∀ a ∈ Z, ∀ o, H a = some o → H' a = some o
theorem Kp.im {Z : List Addr} {H H' : Hp} (k : Kp [] H H') : Im Z H H' := ⟨fun a xs e => k.get0 e, fun a _ o e => k.get0 e⟩
theorem Kp.imN {Z N : List Addr} {H H' : Hp} (k : Kp N H H') (n : ∀ a ∈ N, ∀ xs, H a ≠ some (.tup xs)) (nz : ∀ a ∈ N, a ∉ Z) : Im Z H H' :=
  ⟨fun a xs e => k a _ (fun z => n a z xs e) e, fun a ha o e => k a _ (fun z => nz a z ha) e⟩
mutual
inductive Dt (K : PySem.W.Frag) (Z : List Addr) (H : Hp) : V → PyData → Prop
  | non : Dt K Z H .non .none
  | bl (b : Bool) : Dt K Z H (.bl b) (.bool b)
  | int (i : Int) : Dt K Z H (.int i) (.int i)
  | str (x : Str) : Dt K Z H (.str x) (.str x)
  | tup {a : Addr} {xs : List V} {ds : List PyData} : TupAt K H a xs → Dts K Z H xs ds → Dt K Z H (.ref a) (.tuple ds)
  | lst {a : Addr} {xs : List V} {ds : List PyData} : a ∈ Z → H a = some (.lst xs) → Dts K Z H xs ds → Dt K Z H (.ref a) (.list ds)
inductive Dts (K : PySem.W.Frag) (Z : List Addr) (H : Hp) : List V → List PyData → Prop
  | nil : Dts K Z H [] []
  | cons {v : V} {vs : List V} {d : PyData} {ds : List PyData} : Dt K Z H v d → Dts K Z H vs ds → Dts K Z H (v :: vs) (d :: ds)
end
section
variable {K : PySem.W.Frag} {Z Z' : List Addr} {H H' : Hp}
mutual
theorem Dt.im (i : Im Z H H') : ∀ (d : PyData) (v : V), Dt K Z H v d → Dt K Z H' v d
  | .none, _, h => by cases h; exact .non
  | .bool _, _, h => by cases h; exact .bl _
  | .int _, _, h => by cases h; exact .int _
  | .str _, _, h => by cases h; exact .str _
  | .list ds, _, h => by
    cases h with
    | lst z t a => exact .lst z (i.2 _ z _ t) (Dts.im i ds _ a)
  | .tuple ds, _, h => by
    cases h with
    | tup t a =>
      exact .tup (i.1 _ _ t) (Dts.im i ds _ a)
  | .dict _, _, h => by cases h
theorem Dts.im (i : Im Z H H') : ∀ (ds : List PyData) (vs : List V), Dts K Z H vs ds → Dts K Z H' vs ds
  | [], _, h => by cases h; exact .nil
  | d :: ds, _, h => by
    cases h with
    | cons h1 h2 => exact .cons (Dt.im i d _ h1) (Dts.im i ds _ h2)
end
mutual
theorem Dt.zs (i : Z ⊆ Z') : ∀ (d : PyData) (v : V), Dt K Z H v d → Dt K Z' H v d
  | .none, _, h => by cases h; exact .non
  | .bool _, _, h => by cases h; exact .bl _
  | .int _, _, h => by cases h; exact .int _
  | .str _, _, h => by cases h; exact .str _
  | .list ds, _, h => by
    cases h with
    | lst z t a => exact .lst (i z) t (Dts.zs i ds _ a)
  | .tuple ds, _, h => by
    cases h with
    | tup t a => exact .tup t (Dts.zs i ds _ a)
  | .dict _, _, h => by cases h
theorem Dts.zs (i : Z ⊆ Z') : ∀ (ds : List PyData) (vs : List V), Dts K Z H vs ds → Dts K Z' H vs ds
  | [], _, h => by cases h; exact .nil
  | d :: ds, _, h => by
    cases h with
    | cons h1 h2 => exact .cons (Dt.zs i d _ h1) (Dts.zs i ds _ h2)
end
mutual
theorem Dt.dp : ∀ (d : PyData) (v : V), Dt K Z H v d → Dp K H v d
  | .none, _, h => by cases h; exact .non
  | .bool _, _, h => by cases h; exact .bl _
  | .int _, _, h => by cases h; exact .int _
  | .str _, _, h => by cases h; exact .str _
  | .list ds, _, h => by
    cases h with
    | lst z t a => exact .lst (sql t) (Dts.dp ds _ a)
  | .tuple ds, _, h => by
    cases h with
    | tup t a => exact .tup t.sq (Dts.dp ds _ a)
  | .dict _, _, h => by cases h
theorem Dts.dp : ∀ (ds : List PyData) (vs : List V), Dts K Z H vs ds → DpAll K H vs ds
  | [], _, h => by cases h; exact .nil
  | d :: ds, _, h => by
    cases h with
    | cons h1 h2 => exact .cons (Dt.dp d _ h1) (Dts.dp ds _ h2)
end
mutual
theorem Dt.plain : ∀ (d : PyData) (v : V), Dt K Z H v d → d.plain = true
  | .none, _, h => rfl
  | .bool _, _, h => rfl
  | .int _, _, h => rfl
  | .str _, _, h => rfl
  | .list ds, _, h => by
    cases h with
    | lst z t a => unfold PyData.plain; exact Dts.plain ds _ a
  | .tuple ds, _, h => by
    cases h with
    | tup t a => unfold PyData.plain; exact Dts.plain ds _ a
  | .dict _, _, h => by cases h
theorem Dts.plain : ∀ (ds : List PyData) (vs : List V), Dts K Z H vs ds → PyData.plainAll ds = true
  | [], _, h => rfl
  | d :: ds, _, h => by
    cases h with
    | cons h1 h2 => unfold PyData.plainAll; rw [Dt.plain d _ h1, Dts.plain ds _ h2]; rfl
end
theorem Dts.length {vs : List V} {ds : List PyData} (h : Dts K Z H vs ds) : vs.length = ds.length := by
  induction ds generalizing vs with
  | nil => cases h; rfl
  | cons d ds ih => cases h with | cons h1 h2 => simp [ih h2]
theorem Dts.at {vs : List V} {ds : List PyData} (h : Dts K Z H vs ds) {i : Nat} {d : PyData} (e : ds[i]? = some d) : ∃ v, vs[i]? = some v ∧ Dt K Z H v d := by
  induction ds generalizing vs i with
  | nil => cases e
  | cons d' ds ih =>
    cases h with
    | cons h1 h2 =>
      cases i with
      | zero => cases e; exact ⟨_, rfl, h1⟩
      | succ i => exact ih h2 e
theorem Dts.at' {vs : List V} {ds : List PyData} (h : Dts K Z H vs ds) {i : Nat} {v : V} (e : vs[i]? = some v) : ∃ d, ds[i]? = some d ∧ Dt K Z H v d := by
  have hl : i < ds.length := by rw [← h.length]; exact (List.getElem?_eq_some_iff.mp e).1
  obtain ⟨v', e', q⟩ := h.at (List.getElem?_eq_getElem hl)
  rw [e] at e'
  cases e'
  exact ⟨_, List.getElem?_eq_getElem hl, q⟩
theorem Dts.atI {vs : List V} {ds : List PyData} (h : Dts K Z H vs ds) {i : Int} {d : PyData} (e : L2.atI ds i = some d) : ∃ v, L2.atI vs i = some v ∧ Dt K Z H v d := by
  unfold L2.atI at e ⊢
  rw [h.length]
  cases hc : L2.ixN ds.length i with
  | none => rw [hc] at e; cases e
  | some j => rw [hc] at e; exact h.at e
theorem Dts.append {vs ws : List V} {ds es : List PyData} (h : Dts K Z H vs ds) (h' : Dts K Z H ws es) : Dts K Z H (vs ++ ws) (ds ++ es) := by
  induction ds generalizing vs with
  | nil => cases h; exact h'
  | cons d ds ih => cases h with | cons h1 h2 => exact .cons h1 (ih h2)
theorem Dts.take {vs : List V} {ds : List PyData} (h : Dts K Z H vs ds) (n : Nat) : Dts K Z H (vs.take n) (ds.take n) := by
  induction ds generalizing vs n with
  | nil => cases h; simp; exact .nil
  | cons d ds ih =>
    cases h with
    | cons h1 h2 =>
      cases n with
      | zero => exact .nil
      | succ n => exact .cons h1 (ih h2 n)
theorem Dts.drop {vs : List V} {ds : List PyData} (h : Dts K Z H vs ds) (n : Nat) : Dts K Z H (vs.drop n) (ds.drop n) := by
  induction ds generalizing vs n with
  | nil => cases h; simp; exact .nil
  | cons d ds ih =>
    cases h with
    | cons h1 h2 =>
      cases n with
      | zero => exact .cons h1 h2
      | succ n => exact ih h2 n
theorem Dts.set {vs : List V} {ds : List PyData} (h : Dts K Z H vs ds) {v : V} {d : PyData} (n : Nat) (hv : Dt K Z H v d) : Dts K Z H (vs.set n v) (ds.set n d) := by
  induction ds generalizing vs n with
  | nil => cases h; exact .nil
  | cons d ds ih =>
    cases h with
    | cons h1 h2 =>
      cases n with
      | zero => exact .cons hv h2
      | succ n => exact .cons h1 (ih h2 n)
theorem Dts.ints (ns : List Int) : Dts K Z H (ns.map V.int) (ns.map PyData.int) := by
  induction ns with
  | nil => exact .nil
  | cons n r ih => exact .cons (.int n) ih
theorem Dt.int_inv {v : V} {i : Int} (h : Dt K Z H v (.int i)) : v = .int i := by cases h; rfl
theorem Dt.str_inv {v : V} {x : Str} (h : Dt K Z H v (.str x)) : v = .str x := by cases h; rfl
theorem Dt.bl_inv {v : V} {b : Bool} (h : Dt K Z H v (.bool b)) : v = .bl b := by cases h; rfl
theorem Dt.non_inv {v : V} (h : Dt K Z H v .none) : v = .non := by cases h; rfl
theorem Dt.tup_inv {v : V} {ds : List PyData} (h : Dt K Z H v (.tuple ds)) : ∃ a xs, v = .ref a ∧ TupAt K H a xs ∧ Dts K Z H xs ds := by
  cases h with
  | tup t a => exact ⟨_, _, rfl, t, a⟩
theorem Dt.lst_inv {v : V} {ds : List PyData} (h : Dt K Z H v (.list ds)) : ∃ a xs, v = .ref a ∧ a ∈ Z ∧ H a = some (.lst xs) ∧ Dts K Z H xs ds := by
  cases h with
  | lst z t a => exact ⟨_, _, rfl, z, t, a⟩
end
/-! # what a heap holds, in one sentence -/
structure Ent where
  tag : Nat
  foot : List Addr
  w : Bool
  P : List Addr → Hp → Prop
  loc : ∀ Z H H', P Z H → (∀ a ∈ foot, H' a = H a) → Im Z H H' → P Z H'
  zs : ∀ Z Z' H, Z ⊆ Z' → P Z H → P Z' H
  live : ∀ Z H, P Z H → ∀ a ∈ foot, ∃ o, H a = some o
theorem one_mem {a b : Addr} (h : b ∈ [a]) : b = a := by simpa using h
/-- one object -/
def Ent.obj (a : Addr) (o : HO) (w : Bool) : Ent := ⟨0, [a], w, fun _ H => H a = some o, fun Z H H' h e _ => by rw [e a (by simp)]; exact h, fun _ _ _ _ h => h, fun Z H h b hb => by rw [one_mem hb]; exact ⟨_, h⟩⟩
/-- a list of data -/
def DL (K : PySem.W.Frag) (Z : List Addr) (H : Hp) (a : Addr) (ds : List PyData) : Prop := ∃ xs, H a = some (.lst xs) ∧ Dts K Z H xs ds
def Ent.dl (K : PySem.W.Frag) (a : Addr) (ds : List PyData) (w : Bool) : Ent := ⟨1, [a], w, fun Z H => DL K Z H a ds, fun Z H H' ⟨xs, h, d⟩ e i => ⟨xs, by rw [e a (by simp)]; exact h, d.im i⟩, fun Z Z' H s ⟨xs, h, d⟩ => ⟨xs, h, d.zs s⟩, fun Z H ⟨xs, h, d⟩ b hb => by rw [one_mem hb]; exact ⟨_, h⟩⟩
/-- the pool -/
def Ent.pool (a : Addr) : Ent := ⟨2, [a], true, fun _ H => Pool H a, fun Z H H' ⟨c, x, n, k, h⟩ e _ => ⟨c, x, n, k, by rw [e a (by simp)]; exact h⟩, fun _ _ _ _ h => h, fun Z H ⟨c, x, n, k, h⟩ b hb => by rw [one_mem hb]; exact ⟨_, h⟩⟩
/-- the beginning: the heap, what may be written, what stood still -/
structure Bs where
  H0 : Hp
  W : List Addr
  Z0 : List Addr
structure Hs (K : PySem.W.Frag) (B : Bs) (Z : List Addr) (H : Hp) (L : List Ent) (M : List (List V × List PyData)) : Prop where
  kp : Kp B.W B.H0 H
  wl : ∀ a ∈ B.W, ∃ o, H a = some o
  zl : ∀ a ∈ Z, ∃ o, H a = some o
  nd : L.Pairwise fun x y => ∀ a ∈ x.foot, a ∉ y.foot
  zd : ∀ x ∈ L, ∀ a ∈ x.foot, a ∉ Z
  at_ : ∀ x ∈ L, x.P Z H
  wr : ∀ x ∈ L, x.w = true → ∀ a ∈ x.foot, a ∈ B.W ∨ B.H0 a = none
  dp : ∀ m ∈ M, Dts K Z H m.1 m.2
  zn : ∀ a ∈ Z, a ∈ B.Z0 ∨ a ∈ B.W ∨ B.H0 a = none
inductive Loc : List Ent → Ent → (Ent → List Ent) → Prop
  | here {e : Ent} {L : List Ent} : Loc (e :: L) e fun e' => e' :: L
  | there {x e : Ent} {L : List Ent} {F : Ent → List Ent} : Loc L e F → Loc (x :: L) e fun e' => x :: F e'
theorem Loc.split {L : List Ent} {e : Ent} {F : Ent → List Ent} (h : Loc L e F) : ∃ A B, L = A ++ e :: B ∧ ∀ e', F e' = A ++ e' :: B := by
  induction h with
  | here => exact ⟨[], _, rfl, fun _ => rfl⟩
  | there h ih =>
    obtain ⟨A, B, rfl, q⟩ := ih
    exact ⟨_ :: A, B, rfl, fun e' => by show _ :: _ = _; rw [q]; rfl⟩
theorem Loc.mem {L : List Ent} {e : Ent} {F : Ent → List Ent} (h : Loc L e F) : e ∈ L := by
  obtain ⟨A, B, rfl, _⟩ := h.split
  simp
theorem Loc.apart {R : Ent → Ent → Prop} {L : List Ent} {e e' : Ent} {F F' : Ent → List Ent} (h : Loc L e F) (h' : Loc L e' F') (p : L.Pairwise R) (n : e.tag ≠ e'.tag) : R e e' ∨ R e' e := by
  induction h generalizing F' with
  | here =>
    cases h' with
    | here => exact absurd rfl n
    | there h' => exact .inl ((List.pairwise_cons.mp p).1 _ h'.mem)
  | there h ih =>
    cases h' with
    | here => exact .inr ((List.pairwise_cons.mp p).1 _ h.mem)
    | there h' => exact ih h' (List.pairwise_cons.mp p).2 n
/-- without it -/
inductive Rem : List Ent → Ent → List Ent → Prop
  | here {e : Ent} {L : List Ent} : Rem (e :: L) e L
  | there {x e : Ent} {L L' : List Ent} : Rem L e L' → Rem (x :: L) e (x :: L')
theorem Rem.split {L L' : List Ent} {e : Ent} (h : Rem L e L') : ∃ A B, L = A ++ e :: B ∧ L' = A ++ B := by
  induction h with
  | here => exact ⟨[], _, rfl, rfl⟩
  | there h ih =>
    obtain ⟨A, B, rfl, rfl⟩ := ih
    exact ⟨_ :: A, B, rfl, rfl⟩
section
variable {K : PySem.W.Frag} {B : Bs} {H H' : Hp} {W Z Z' : List Addr} {L L' : List Ent} {M : List (List V × List PyData)} {e e' : Ent} {F : Ent → List Ent} {a p : Addr}
theorem Hs.get (h : Hs K B Z H L M) (l : Loc L e F) : e.P Z H := h.at_ e l.mem
theorem Hs.obj {o : HO} {w : Bool} (h : Hs K B Z H L M) (l : Loc L (.obj a o w) F) : H a = some o := h.get l
theorem Hs.dl {ds : List PyData} {w : Bool} (h : Hs K B Z H L M) (l : Loc L (.dl K a ds w) F) : DL K Z H a ds := h.get l
theorem Hs.pool (h : Hs K B Z H L M) (l : Loc L (.pool a) F) : Pool H a := h.get l
theorem Hs.nePool {ds : List PyData} {w : Bool} {F' : Ent → List Ent} (h : Hs K B Z H L M) (l : Loc L (.dl K p ds w) F) (l' : Loc L (.pool a) F') : p ≠ a := by
  rcases l.apart l' h.nd (by simp [Ent.dl, Ent.pool]) with q | q
  · intro z; exact q p (by simp [Ent.dl]) (by simp [Ent.pool, z])
  · intro z; exact q a (by simp [Ent.pool]) (by simp [Ent.dl, z])
theorem Hs.start (wl : ∀ a ∈ W, ∃ o, H a = some o) (zl : ∀ a ∈ Z, ∃ o, H a = some o) : Hs K ⟨H, W, Z⟩ Z H [] [] := ⟨.refl, wl, zl, .nil, (fun _ z => by cases z), (fun _ z => by cases z), (fun _ z => by cases z), (fun _ z => by cases z), fun _ z => .inl z⟩
/-- what stands at the beginning -/
theorem Hs.ent (h : Hs K B Z H L M) (e : Ent) (he : e.P Z H) (d : ∀ x ∈ L, ∀ a ∈ e.foot, a ∉ x.foot) (dz : ∀ a ∈ e.foot, a ∉ Z) (w : e.w = true → ∀ a ∈ e.foot, a ∈ B.W ∨ B.H0 a = none) : Hs K B Z H (e :: L) M :=
  ⟨h.kp, h.wl, h.zl, .cons (fun x hx a ha => d x hx a ha) h.nd, fun x hx => by rcases List.mem_cons.mp hx with rfl | hx; exact dz; exact h.zd x hx, fun x hx => by rcases List.mem_cons.mp hx with rfl | hx; exact he; exact h.at_ x hx, fun x hx => by rcases List.mem_cons.mp hx with rfl | hx; exact w; exact h.wr x hx, h.dp, h.zn⟩
theorem Hs.fact (h : Hs K B Z H L M) {vs : List V} {ds : List PyData} (d : Dts K Z H vs ds) : Hs K B Z H L ((vs, ds) :: M) :=
  ⟨h.kp, h.wl, h.zl, h.nd, h.zd, h.at_, h.wr, fun m hm => by rcases List.mem_cons.mp hm with rfl | hm; exact d; exact h.dp m hm, h.zn⟩
theorem Hs.fact1 (h : Hs K B Z H L M) {v : V} {d : PyData} (q : Dt K Z H v d) : Hs K B Z H L (([v], [d]) :: M) := h.fact (.cons q .nil)
/-- nothing of the old is touched -/
theorem Hs.same (h : Hs K B Z H L M) (k : Kp [] H H') : Hs K B Z H' L M :=
  ⟨h.kp.trans k.of0, fun a ha => by obtain ⟨o, e⟩ := h.wl a ha; exact ⟨o, k.get0 e⟩, fun a ha => by obtain ⟨o, e⟩ := h.zl a ha; exact ⟨o, k.get0 e⟩, h.nd, h.zd,
    fun x hx => x.loc Z H H' (h.at_ x hx) (fun a ha => by obtain ⟨o, e⟩ := x.live Z H (h.at_ x hx) a ha; rw [k.get0 e, e]) k.im, h.wr, fun m hm => (h.dp m hm).im k.im, h.zn⟩
theorem Hs.free (h : Hs K B Z H L M) (n : H a = none) : B.H0 a = none := by
  cases e : B.H0 a with
  | none => rfl
  | some o =>
    by_cases hw : a ∈ B.W
    · obtain ⟨u, q⟩ := h.wl a hw; rw [q] at n; cases n
    · rw [h.kp a o hw e] at n; cases n
theorem Hs.zfree (h : Hs K B Z H L M) (n : H a = none) : a ∉ Z := fun z => by
  obtain ⟨o, q⟩ := h.zl a z
  rw [q] at n; cases n
theorem Hs.efree (h : Hs K B Z H L M) (n : H a = none) {x : Ent} (hx : x ∈ L) : a ∉ x.foot := fun z => by
  obtain ⟨o, q⟩ := x.live Z H (h.at_ x hx) a z
  rw [q] at n; cases n
/-- something new -/
theorem Hs.new (h : Hs K B Z H L M) (k : Kp [] H H') (e : Ent) (n : ∀ a ∈ e.foot, H a = none) (he : e.P Z H') : Hs K B Z H' (e :: L) M :=
  (h.same k).ent e he (fun x hx a ha hb => h.efree (n a ha) hx hb) (fun a ha => h.zfree (n a ha)) fun _ a ha => .inr (h.free (n a ha))
theorem Hs.newObj {o : HO} (h : Hs K B Z H L M) (k : Kp [] H H') (n : H p = none) (e : H' p = some o) : Hs K B Z H' (.obj p o true :: L) M :=
  h.new k (.obj p o true) (fun a ha => by rw [one_mem ha]; exact n) e
theorem Hs.newDl {ds : List PyData} (h : Hs K B Z H L M) (k : Kp [] H H') (n : H p = none) (e : DL K Z H' p ds) : Hs K B Z H' (.dl K p ds true :: L) M :=
  h.new k (.dl K p ds true) (fun a ha => by rw [one_mem ha]; exact n) e
theorem Hs.newPool (h : Hs K B Z H L M) (k : Kp [] H H') (n : H p = none) (e : Pool H' p) : Hs K B Z H' (.pool p :: L) M :=
  h.new k (.pool p) (fun a ha => by rw [one_mem ha]; exact n) e
/-- more things that stand still -/
theorem Hs.moreZ (h : Hs K B Z H L M) (s : Z ⊆ Z') (zl : ∀ a ∈ Z', ∃ o, H a = some o) (zd : ∀ x ∈ L, ∀ a ∈ x.foot, a ∉ Z') (zn : ∀ a ∈ Z', a ∈ B.Z0 ∨ a ∈ B.W ∨ B.H0 a = none) : Hs K B Z' H L M :=
  ⟨h.kp, h.wl, zl, h.nd, zd, fun x hx => x.zs Z Z' H s (h.at_ x hx), h.wr, fun m hm => (h.dp m hm).zs s, zn⟩
/-- a list is let stand for good -/
theorem Hs.freeze {ds : List PyData} (h : Hs K B Z H L M) (r : Rem L (.dl K p ds true) L') : Hs K B (p :: Z) H L' (([.ref p], [.list ds]) :: M) := by
  obtain ⟨A, C, rfl, rfl⟩ := r.split
  have he : (Ent.dl K p ds true) ∈ A ++ .dl K p ds true :: C := by simp
  obtain ⟨xs, ex, q⟩ := (h.at_ _ he : DL K Z H p ds)
  have nd := h.nd
  rw [List.pairwise_append] at nd
  have sub : ∀ x ∈ A ++ C, x ∈ A ++ .dl K p ds true :: C := fun x hx => by
    rcases List.mem_append.mp hx with z | z
    · simp [z]
    · simp [z]
  have h1 : Hs K B Z H (A ++ C) M := ⟨h.kp, h.wl, h.zl, by
    rw [List.pairwise_append]
    exact ⟨nd.1, (List.pairwise_cons.mp nd.2.1).2, fun x hx y hy => nd.2.2 x hx y (by simp [hy])⟩, fun x hx => h.zd x (sub x hx), fun x hx => h.at_ x (sub x hx), fun x hx => h.wr x (sub x hx), h.dp, h.zn⟩
  have h2 : Hs K B (p :: Z) H (A ++ C) M := h1.moreZ (List.subset_cons_self _ _) (fun a ha => by
    rcases List.mem_cons.mp ha with rfl | ha
    · exact ⟨_, ex⟩
    · exact h.zl a ha) (fun x hx a ha hb => by
    rcases List.mem_cons.mp hb with rfl | hb
    · rcases List.mem_append.mp hx with z | z
      · exact nd.2.2 x z _ (List.mem_cons_self) a ha (by simp [Ent.dl])
      · exact (List.pairwise_cons.mp nd.2.1).1 x z a (by simp [Ent.dl]) ha
    · exact h.zd x (sub x hx) a ha hb) (fun a ha => by
    rcases List.mem_cons.mp ha with rfl | ha
    · rcases h.wr _ he rfl a (by simp [Ent.dl]) with z | z
      · exact .inr (.inl z)
      · exact .inr (.inr z)
    · exact h.zn a ha)
  exact h2.fact1 (.lst List.mem_cons_self ex (q.zs (List.subset_cons_self _ _)))
/-- one entry written -/
theorem Hs.put {N : List Addr} (h : Hs K B Z H L M) (l : Loc L e F) (hw : e.w = true) (k : Kp N H H') (sub : ∀ a ∈ N, a ∈ e.foot) (sub2 : ∀ a ∈ N, a ∈ e'.foot) (nt : ∀ a ∈ N, ∀ xs, H a ≠ some (.tup xs)) (he : e'.P Z H') (hf : ∀ a ∈ e'.foot, a ∈ e.foot ∨ H a = none) : Hs K B Z H' (F e') M := by
  obtain ⟨A, C, rfl, q⟩ := l.split
  rw [q]
  have he0 : e ∈ A ++ e :: C := by simp
  have im := k.imN (Z := Z) nt fun a ha => h.zd e he0 a (sub a ha)
  have hAB : ∀ x ∈ A ++ C, x ∈ A ++ e :: C := fun x hx => by
    rcases List.mem_append.mp hx with z | z
    · simp [z]
    · simp [z]
  have hkeep : ∀ x ∈ A ++ C, x.P Z H' := fun x hx => by
    have hxL := hAB x hx
    refine x.loc Z H H' (h.at_ x hxL) (fun a ha => ?_) im
    obtain ⟨o, eo⟩ := x.live Z H (h.at_ x hxL) a ha
    have na : a ∉ e.foot := by
      have nd := h.nd
      rw [List.pairwise_append] at nd
      rcases List.mem_append.mp hx with z | z
      · exact nd.2.2 x z e (by simp) a ha
      · intro hb
        exact (List.pairwise_cons.mp nd.2.1).1 x z a hb ha
    rw [k a o (fun z => na (sub a z)) eo, eo]
  have hdis : ∀ x ∈ A ++ C, ∀ a ∈ x.foot, a ∉ e'.foot := fun x hx a ha hb => by
    have hxL := hAB x hx
    rcases hf a hb with z | z
    · have nd := h.nd
      rw [List.pairwise_append] at nd
      rcases List.mem_append.mp hx with y | y
      · exact nd.2.2 x y e (by simp) a ha z
      · exact (List.pairwise_cons.mp nd.2.1).1 x y a z ha
    · exact h.efree z hxL ha
  have hmem : ∀ x, x ∈ A ++ e' :: C → x = e' ∨ x ∈ A ++ C := fun x hx => by
    rcases List.mem_append.mp hx with z | z
    · exact .inr (by simp [z])
    · rcases List.mem_cons.mp z with z | z
      · exact .inl z
      · exact .inr (by simp [z])
  refine ⟨fun b o nb eb => ?_, fun a ha => ?_, fun a ha => ?_, ?_, fun x hx a ha => ?_, fun x hx => ?_, fun x hx hxw a ha => ?_, fun m hm => (h.dp m hm).im im, h.zn⟩
  · refine k b o (fun z => ?_) (h.kp b o nb eb)
    rcases h.wr e he0 hw b (sub b z) with y | y
    · exact nb y
    · rw [y] at eb; cases eb
  · obtain ⟨o, eo⟩ := h.wl a ha
    by_cases z : a ∈ N
    · exact e'.live Z H' he a (sub2 a z)
    · exact ⟨o, k a o z eo⟩
  · obtain ⟨o, eo⟩ := h.zl a ha
    exact ⟨o, im.2 a ha o eo⟩
  · have nd := h.nd
    rw [List.pairwise_append] at nd ⊢
    refine ⟨nd.1, ?_, fun x hx y hy => ?_⟩
    · rw [List.pairwise_cons] at nd ⊢
      exact ⟨fun y hy a ha hb => hdis y (by simp [hy]) a hb ha, nd.2.1.2⟩
    · rcases List.mem_cons.mp hy with rfl | hy
      · exact hdis x (by simp [hx])
      · exact nd.2.2 x hx y (by simp [hy])
  · rcases hmem x hx with rfl | hx
    · rcases hf a ha with z | z
      · exact h.zd e he0 a z
      · exact h.zfree z
    · exact h.zd x (hAB x hx) a ha
  · rcases hmem x hx with rfl | hx
    · exact he
    · exact hkeep x hx
  · rcases hmem x hx with rfl | hx
    · rcases hf a ha with z | z
      · exact h.wr e he0 hw a z
      · exact .inr (h.free z)
    · exact h.wr x (hAB x hx) hxw a ha
end
end U
set_option Elab.async false
set_option linter.all false
set_option autoImplicit false
set_option maxRecDepth 100000
set_option maxHeartbeats 4000000
namespace U
open PySem PySem.Spec PyProof.Rows L2
/-! # steps over Hs -/
/-- data, or a list of data -/
inductive Da (K : PySem.W.Frag) (Z : List Addr) (H : Hp) : V → PyData → Prop
  | imm {v : V} {d : PyData} (h : Dt K Z H v d) : Da K Z H v d
  | lst {p : Addr} {ds : List PyData} (h : DL K Z H p ds) : Da K Z H (.ref p) (.list ds)
/-- a list that is read -/
def DLv (K : PySem.W.Frag) (Z : List Addr) (H : Hp) (v : V) (ds : List PyData) : Prop := ∃ p, v = .ref p ∧ DL K Z H p ds
section
variable {K : PySem.W.Frag} {Z : List Addr} {H H' : Hp}
theorem DL.sq {p : Addr} {ds : List PyData} (h : DL K Z H p ds) : ∃ xs, SqL K H p xs ∧ Dts K Z H xs ds := by
  obtain ⟨xs, e, q⟩ := h
  exact ⟨xs, sql e, q⟩
theorem Da.dp {v : V} {d : PyData} (h : Da K Z H v d) : Dp K H v d := by
  cases h with
  | imm h => exact h.dp
  | lst h => obtain ⟨xs, e, q⟩ := h; exact .lst (sql e) q.dp
theorem Da.plain {v : V} {d : PyData} (h : Da K Z H v d) : d.plain = true := by
  cases h with
  | imm h => exact h.plain
  | lst h => obtain ⟨xs, e, q⟩ := h; unfold PyData.plain; exact q.plain
theorem Dt.dlv {v : V} {ds : List PyData} (h : Dt K Z H v (.list ds)) : DLv K Z H v ds := by
  obtain ⟨a, xs, rfl, z, t, q⟩ := h.lst_inv
  exact ⟨a, rfl, xs, t, q⟩
end
/-! operators on data -/
def rEqA (K : PySem.W.Frag) (neg : Bool) : R2 := fun x y H Q => ∃ d e, Dp K H x d ∧ Dp K H y e ∧ d.plain = true ∧ e.plain = true ∧ min d.depth e.depth ≤ 60 ∧ Q (.bl (if neg then !PyData.eqv d e else PyData.eqv d e)) H
def rInA (K : PySem.W.Frag) (neg : Bool) : R2 := fun x y H Q => ∃ d ds, Dp K H x d ∧ (Dp K H y (.list ds) ∨ Dp K H y (.tuple ds)) ∧ d.plain = true ∧ PyData.plainAll ds = true ∧ min (PyData.depthAll ds) d.depth ≤ 60 ∧ Q (.bl (if neg then !(ds.any fun y => PyData.eqv y d) else ds.any fun y => PyData.eqv y d)) H
section
variable {X : Cx} (K : PySem.W.Frag)
theorem eqAK (hu : X.A.units + 64 < cLine) (hK : X.K = K := by rfl) : OpR X (compareOp .Eq) (rEqA K false) := by
  subst hK
  intro pins s σ H x y v u Q I rx ry h
  obtain ⟨d, e, hd, he, pd, pe, hm, q⟩ := h
  obtain ⟨as, r1⟩ := Dp.reads I d x v hd rx
  obtain ⟨bs, r2⟩ := Dp.reads I e y u he ry
  exact SeqAt.eq_plain r1 r2 pd pe (by omega) ⟨.bl _, H, I, rfl, q⟩
theorem neAK (hu : X.A.units + 64 < cLine) (hK : X.K = K := by rfl) : OpR X (compareOp .NotEq) (rEqA K true) := by
  subst hK
  intro pins s σ H x y v u Q I rx ry h
  obtain ⟨d, e, hd, he, pd, pe, hm, q⟩ := h
  obtain ⟨as, r1⟩ := Dp.reads I d x v hd rx
  obtain ⟨bs, r2⟩ := Dp.reads I e y u he ry
  exact SeqAt.ne_plain r1 r2 pd pe (by omega) ⟨.bl _, H, I, rfl, q⟩
theorem inAK (hu : X.A.units + 64 < cLine) (hK : X.K = K := by rfl) : OpR X (compareOp .In) (rInA K false) := by
  subst hK
  intro pins s σ H x y v u Q I rx ry h
  obtain ⟨d, ds, hd, hl, pd, pl, hm, q⟩ := h
  obtain ⟨as, r1⟩ := Dp.reads I d x v hd rx
  rcases hl with hl | hl
  · obtain ⟨bs, r2⟩ := Dp.reads I _ y u hl ry
    exact SeqAt.in_list_data r2 r1 pl pd (by omega) ⟨.bl _, H, I, rfl, q⟩
  · obtain ⟨bs, r2⟩ := Dp.reads I _ y u hl ry
    exact SeqAt.in_tuple_data r2 r1 pl pd (by omega) ⟨.bl _, H, I, rfl, q⟩
theorem niAK (hu : X.A.units + 64 < cLine) (hK : X.K = K := by rfl) : OpR X (compareOp .NotIn) (rInA K true) := by
  subst hK
  intro pins s σ H x y v u Q I rx ry h
  obtain ⟨d, ds, hd, hl, pd, pl, hm, q⟩ := h
  obtain ⟨as, r1⟩ := Dp.reads I d x v hd rx
  rcases hl with hl | hl
  · obtain ⟨bs, r2⟩ := Dp.reads I _ y u hl ry
    exact SeqAt.notIn_list_data r2 r1 pl pd (by omega) ⟨.bl _, H, I, rfl, q⟩
  · obtain ⟨bs, r2⟩ := Dp.reads I _ y u hl ry
    exact SeqAt.notIn_tuple_data r2 r1 pl pd (by omega) ⟨.bl _, H, I, rfl, q⟩
end
theorem plain_l {ds : List PyData} (h : (PyData.list ds).plain = true) : PyData.plainAll ds = true := by unfold PyData.plain at h; exact h
theorem plain_t {ds : List PyData} (h : (PyData.tuple ds).plain = true) : PyData.plainAll ds = true := by unfold PyData.plain at h; exact h
section
variable {K : PySem.W.Frag} {B : Bs} {H H' : Hp} {W Z : List Addr} {L : List Ent} {M : List (List V × List PyData)} {e e' : Ent} {F : Ent → List Ent} {a p : Addr} {Q : VK} {v x y : V} {d d' : PyData} {ds es : List PyData} {vs xs : List V} {w : Bool} {σ : L2.St}
/-! facts -/
theorem Hs.dt (h : Hs K B Z H L M) (m : ([v], [d]) ∈ M) : Dt K Z H v d := by
  have := h.dp _ m
  cases this with | cons h1 h2 => exact h1
theorem Hs.dts (h : Hs K B Z H L M) (m : (vs, ds) ∈ M) : Dts K Z H vs ds := h.dp _ m
theorem Hs.dtup {t : Addr} (h : Hs K B Z H L M) (l : Loc L (.obj t (.tup xs) w) F) (q : Dts K Z H xs ds) : Dt K Z H (.ref t) (.tuple ds) := .tup (h.obj l) q
theorem Hs.dlst (h : Hs K B Z H L M) (l : Loc L (.dl K p ds w) F) : Da K Z H (.ref p) (.list ds) := .lst (h.dl l)
theorem Hs.dlv (h : Hs K B Z H L M) (l : Loc L (.dl K p ds w) F) : DLv K Z H (.ref p) ds := ⟨p, rfl, h.dl l⟩
theorem Hs.tl {m : List V × List PyData} (h : Hs K B Z H L (m :: M)) : Hs K B Z H L M := ⟨h.kp, h.wl, h.zl, h.nd, h.zd, h.at_, h.wr, fun x hx => h.dp x (List.mem_cons_of_mem _ hx), h.zn⟩
theorem Hs.tlL (h : Hs K B Z H (e :: L) M) : Hs K B Z H L M := ⟨h.kp, h.wl, h.zl, (List.pairwise_cons.mp h.nd).2, fun x hx => h.zd x (List.mem_cons_of_mem _ hx), fun x hx => h.at_ x (List.mem_cons_of_mem _ hx), fun x hx => h.wr x (List.mem_cons_of_mem _ hx), h.dp, h.zn⟩
theorem Hs.sub {M' : List (List V × List PyData)} (h : Hs K B Z H L M) (s : M' ⊆ M) : Hs K B Z H L M' := ⟨h.kp, h.wl, h.zl, h.nd, h.zd, h.at_, h.wr, fun x hx => h.dp x (s hx), h.zn⟩
/-! displays -/
theorem h_tup (h : Hs K B Z H L M) (hl : xs.length ≤ 100000) (q : Dts K Z H xs ds) (k : ∀ p H', Hs K B Z H' L (([.ref p], [.tuple ds]) :: M) → Q (.ref p) H') : NewT xs H Q :=
  n_tup hl fun p H' hn hk ho => k p H' ((h.same hk).fact1 (.tup ho (q.im hk.im)))
theorem h_tupO (h : Hs K B Z H L M) (hl : xs.length ≤ 100000) (k : ∀ p H', Hs K B Z H' (.obj p (.tup xs) true :: L) M → Q (.ref p) H') : NewT xs H Q :=
  n_tup hl fun p H' hn hk ho => k p H' (h.newObj hk hn ho)
theorem h_lst (h : Hs K B Z H L M) (hl : xs.length ≤ 100000) (q : Dts K Z H xs ds) (k : ∀ p H', Hs K B Z H' (.dl K p ds true :: L) M → Q (.ref p) H') : NewL xs H Q :=
  n_lst hl fun p H' hn hk ho => k p H' (h.newDl hk hn ⟨xs, ho, q.im hk.im⟩)
theorem h_lstO (h : Hs K B Z H L M) (hl : xs.length ≤ 100000) (k : ∀ p H', Hs K B Z H' (.obj p (.lst xs) true :: L) M → Q (.ref p) H') : NewL xs H Q :=
  n_lst hl fun p H' hn hk ho => k p H' (h.newObj hk hn ho)
/-! items -/
theorem h_ixT {i : Int} (h : Hs K B Z H L M) (m : Dt K Z H v (.tuple ds)) (e : atI ds i = some d) (k : ∀ x, Dt K Z H x d → Hs K B Z H L (([x], [d]) :: M) → Q x H) : rIxT K v (.int i) H Q := by
  obtain ⟨a, ys, rfl, t, q⟩ := m.tup_inv
  obtain ⟨x, ex, qx⟩ := q.atI e
  exact ⟨a, ys, i, x, rfl, rfl, t.sq, ex, k x qx (h.fact1 qx)⟩
theorem h_ixTi {i j : Int} (m : Dt K Z H v (.tuple ds)) (e : atI ds i = some (.int j)) (k : Q (.int j) H) : rIxT K v (.int i) H Q := by
  obtain ⟨a, ys, rfl, t, q⟩ := m.tup_inv
  obtain ⟨x, ex, qx⟩ := q.atI e
  obtain rfl := qx.int_inv
  exact ⟨a, ys, i, _, rfl, rfl, t.sq, ex, k⟩
theorem h_ixTs {i : Int} {z : Str} (m : Dt K Z H v (.tuple ds)) (e : atI ds i = some (.str z)) (k : Q (.str z) H) : rIxT K v (.int i) H Q := by
  obtain ⟨a, ys, rfl, t, q⟩ := m.tup_inv
  obtain ⟨x, ex, qx⟩ := q.atI e
  obtain rfl := qx.str_inv
  exact ⟨a, ys, i, _, rfl, rfl, t.sq, ex, k⟩
theorem h_ixTb {i : Int} {z : Bool} (m : Dt K Z H v (.tuple ds)) (e : atI ds i = some (.bool z)) (k : Q (.bl z) H) : rIxT K v (.int i) H Q := by
  obtain ⟨a, ys, rfl, t, q⟩ := m.tup_inv
  obtain ⟨x, ex, qx⟩ := q.atI e
  obtain rfl := qx.bl_inv
  exact ⟨a, ys, i, _, rfl, rfl, t.sq, ex, k⟩
theorem h_ixTn {i : Int} (m : Dt K Z H v (.tuple ds)) (e : atI ds i = some .none) (k : Q .non H) : rIxT K v (.int i) H Q := by
  obtain ⟨a, ys, rfl, t, q⟩ := m.tup_inv
  obtain ⟨x, ex, qx⟩ := q.atI e
  obtain rfl := qx.non_inv
  exact ⟨a, ys, i, _, rfl, rfl, t.sq, ex, k⟩
theorem h_ixL {i : Int} (h : Hs K B Z H L M) (l : DLv K Z H v ds) (e : atI ds i = some d) (k : ∀ x, Dt K Z H x d → Hs K B Z H L (([x], [d]) :: M) → Q x H) : rIxL K v (.int i) H Q := by
  obtain ⟨p, rfl, l⟩ := l
  obtain ⟨ys, t, q⟩ := l.sq
  obtain ⟨x, ex, qx⟩ := q.atI e
  exact ⟨p, ys, i, x, rfl, rfl, t, ex, k x qx (h.fact1 qx)⟩
theorem h_ixLi {i j : Int} (h : Hs K B Z H L M) (l : DLv K Z H v ds) (e : atI ds i = some (.int j)) (k : Q (.int j) H) : rIxL K v (.int i) H Q :=
  h_ixL h l e fun x qx _ => by obtain rfl := qx.int_inv; exact k
theorem h_ixLs {i : Int} {z : Str} (h : Hs K B Z H L M) (l : DLv K Z H v ds) (e : atI ds i = some (.str z)) (k : Q (.str z) H) : rIxL K v (.int i) H Q :=
  h_ixL h l e fun x qx _ => by obtain rfl := qx.str_inv; exact k
theorem h_ixLb {i : Int} {z : Bool} (h : Hs K B Z H L M) (l : DLv K Z H v ds) (e : atI ds i = some (.bool z)) (k : Q (.bl z) H) : rIxL K v (.int i) H Q :=
  h_ixL h l e fun x qx _ => by obtain rfl := qx.bl_inv; exact k
/-! unpacking -/
theorem h_gtup {n : Nat} {g : TGs} {R : L2.St → Hp → Prop} (m : Dt K Z H v (.tuple ds)) (hl : ds.length = n) (k : ∀ xs, Dts K Z H xs ds → g xs σ H R) : gTup K n g v σ H R := by
  obtain ⟨a, ys, rfl, t, q⟩ := m.tup_inv
  exact ⟨a, ys, rfl, t.sq, by rw [q.length]; exact hl, k ys q⟩
theorem h_gc {g : TG} {u : TGs} {R : L2.St → Hp → Prop} (h : Hs K B Z H L M) (q : Dts K Z H xs (d :: ds)) (k : ∀ x xs', Dts K Z H xs' ds → Hs K B Z H L (([x], [d]) :: M) → g x σ H fun σ' H' => u xs' σ' H' R) : gCons g u xs σ H R := by
  cases q with
  | cons h1 h2 => exact ⟨_, _, rfl, k _ _ h2 (h.fact1 h1)⟩
theorem h_gci {g : TG} {u : TGs} {R : L2.St → Hp → Prop} {i : Int} (q : Dts K Z H xs (.int i :: ds)) (k : ∀ xs', Dts K Z H xs' ds → g (.int i) σ H fun σ' H' => u xs' σ' H' R) : gCons g u xs σ H R := by
  cases q with
  | cons h1 h2 => obtain rfl := h1.int_inv; exact ⟨_, _, rfl, k _ h2⟩
theorem h_gcs {g : TG} {u : TGs} {R : L2.St → Hp → Prop} {z : Str} (q : Dts K Z H xs (.str z :: ds)) (k : ∀ xs', Dts K Z H xs' ds → g (.str z) σ H fun σ' H' => u xs' σ' H' R) : gCons g u xs σ H R := by
  cases q with
  | cons h1 h2 => obtain rfl := h1.str_inv; exact ⟨_, _, rfl, k _ h2⟩
theorem h_gcb {g : TG} {u : TGs} {R : L2.St → Hp → Prop} {z : Bool} (q : Dts K Z H xs (.bool z :: ds)) (k : ∀ xs', Dts K Z H xs' ds → g (.bl z) σ H fun σ' H' => u xs' σ' H' R) : gCons g u xs σ H R := by
  cases q with
  | cons h1 h2 => obtain rfl := h1.bl_inv; exact ⟨_, _, rfl, k _ h2⟩
theorem h_gcn {g : TG} {u : TGs} {R : L2.St → Hp → Prop} (q : Dts K Z H xs (.none :: ds)) (k : ∀ xs', Dts K Z H xs' ds → g .non σ H fun σ' H' => u xs' σ' H' R) : gCons g u xs σ H R := by
  cases q with
  | cons h1 h2 => obtain rfl := h1.non_inv; exact ⟨_, _, rfl, k _ h2⟩
theorem h_gn {R : L2.St → Hp → Prop} (q : Dts K Z H xs []) (k : R σ H) : gNil xs σ H R := by
  cases q
  exact ⟨rfl, k⟩
/-! lengths -/
theorem h_lenL (l : DLv K Z H v ds) (k : Q (.int ds.length) H) : rLenA K [v] H Q := by
  obtain ⟨p, rfl, l⟩ := l
  obtain ⟨ys, t, q⟩ := l.sq
  exact ⟨p, ys, rfl, .inl t, by rw [q.length]; exact k⟩
theorem h_lenT (m : Dt K Z H v (.tuple ds)) (k : Q (.int ds.length) H) : rLenA K [v] H Q := by
  obtain ⟨a, ys, rfl, t, q⟩ := m.tup_inv
  exact ⟨a, ys, rfl, .inr t.sq, by rw [q.length]; exact k⟩
/-! lists written -/
theorem Hs.putDl (h : Hs K B Z H L M) (l : Loc L (.dl K p ds true) F) (k : Kp [p] H H') (e : DL K Z H' p es) : Hs K B Z H' (F (.dl K p es true)) M := by
  obtain ⟨ys, ey, _⟩ := h.dl l
  exact h.put l rfl k (fun a ha => ha) (fun a ha => ha) (fun a ha zs => by rw [one_mem ha, ey]; intro z; cases z) e (fun a ha => .inl ha)
theorem Hs.imDl (h : Hs K B Z H L M) (l : Loc L (.dl K p ds w) F) (k : Kp [p] H H') : Im Z H H' := by
  obtain ⟨ys, ey, _⟩ := h.dl l
  exact k.imN (fun a ha zs => by rw [one_mem ha, ey]; intro z; cases z) fun a ha => by rw [one_mem ha]; exact h.zd _ l.mem p (by simp [Ent.dl])
theorem h_app (h : Hs K B Z H L M) (l : Loc L (.dl K p ds true) F) (q : Dt K Z H y d) (hl : ds.length < 100000) (k : ∀ H', Hs K B Z H' (F (.dl K p (ds ++ [d]) true)) M → Q .non H') : rAppend (.ref p) [y] H Q := by
  obtain ⟨ys, ey, qs⟩ := h.dl l
  refine u_append ey (by rw [qs.length]; exact hl) fun H' hk ho => k H' (h.putDl l hk ⟨_, ho, (qs.append (.cons q .nil)).im (h.imDl l hk)⟩)
theorem h_bmL {R : Prop} (h : Hs K B Z H L M) (l : Loc L (.dl K p ds w) F) (q : R) : BmQ K "list" (.ref p) H R := by
  obtain ⟨ys, ey, _⟩ := h.dl l
  exact bm_list ey q
theorem h_setL {i : Int} {j : Nat} {R : Hp → Prop} (h : Hs K B Z H L M) (l : Loc L (.dl K p ds true) F) (q : Dt K Z H v d) (e : ixN ds.length i = some j) (k : ∀ H', Hs K B Z H' (F (.dl K p (ds.set j d) true)) M → R H') : rSetL (.ref p) (.int i) v H R := by
  obtain ⟨ys, ey, qs⟩ := h.dl l
  refine s_list ey (by rw [qs.length]; exact e) fun H' hk ho => k H' (h.putDl l hk ⟨_, ho, (qs.set j q).im (h.imDl l hk)⟩)
/-! slices, sums of lists -/
def cutD (ds : List PyData) (lo hi : Option Int) : List PyData := (ds.drop (HT.sIx ds.length 0 lo)).take (HT.sIx ds.length ds.length hi - HT.sIx ds.length 0 lo)
theorem Dts.cut {lo hi : Option Int} (q : Dts K Z H xs ds) : Dts K Z H (cutV xs lo hi) (cutD ds lo hi) := by
  unfold cutV cutD
  rw [q.length]
  exact (q.drop _).take _
theorem h_slL {lo hi : Option Int} (h : Hs K B Z H L M) (l : DLv K Z H v ds) (k : ∀ q H', Hs K B Z H' (.dl K q (cutD ds lo hi) true :: L) M → Q (.ref q) H') : rSlL K v lo hi H Q := by
  obtain ⟨p, rfl, l⟩ := l
  obtain ⟨ys, t, q⟩ := l.sq
  exact u_slL t fun p' H' hn hk ho => k p' H' (h.newDl hk hn ⟨_, ho, q.cut.im hk.im⟩)
theorem h_catL (h : Hs K B Z H L M) (l : DLv K Z H x ds) (l' : DLv K Z H y es) (hl : ds.length + es.length ≤ 100000) (k : ∀ q H', Hs K B Z H' (.dl K q (ds ++ es) true :: L) M → Q (.ref q) H') : rCat x y H Q := by
  obtain ⟨p, rfl, l⟩ := l
  obtain ⟨p', rfl, l'⟩ := l'
  obtain ⟨ys, t, q⟩ := l
  obtain ⟨zs, t', q'⟩ := l'
  exact u_catL t t' (by rw [q.length, q'.length]; exact hl) fun r H' hn hk ho => k r H' (h.newDl hk hn ⟨_, ho, (q.append q').im hk.im⟩)
theorem h_extL (h : Hs K B Z H L M) (l : Loc L (.dl K p ds true) F) (l' : DLv K Z H y es) (hl : ds.length + es.length ≤ 100000) (k : ∀ H', Hs K B Z H' (F (.dl K p (ds ++ es) true)) M → Q .non H') : rExtend (.ref p) [y] H Q := by
  obtain ⟨p', rfl, l'⟩ := l'
  obtain ⟨ys, t, q⟩ := h.dl l
  obtain ⟨zs, t', q'⟩ := l'
  refine ⟨p, p', ys, zs, rfl, rfl, t, t', sl5 (by rw [q.length, q'.length]; exact hl), k _ (h.putDl l Kp.mut ⟨_, upd_same, (q.append q').im (h.imDl l Kp.mut)⟩)⟩
/-! conversions -/
theorem h_tupOfL (h : Hs K B Z H L M) (l : DLv K Z H v ds) (k : ∀ q H', Hs K B Z H' L (([.ref q], [.tuple ds]) :: M) → Q (.ref q) H') : rTupOf K [v] H Q := by
  obtain ⟨p, rfl, l⟩ := l
  obtain ⟨ys, t, q⟩ := l.sq
  exact tupOf_l t fun r H' hn hk ho => k r H' ((h.same hk).fact1 (.tup ho (q.im hk.im)))
theorem h_tupOfT (m : Dt K Z H v (.tuple ds)) (k : Q v H) : rTupOf K [v] H Q := by
  obtain ⟨a, ys, rfl, t, q⟩ := m.tup_inv
  exact tupOf_t t.sq k
theorem h_listOfL (h : Hs K B Z H L M) (l : DLv K Z H v ds) (k : ∀ q H', Hs K B Z H' (.dl K q ds true :: L) M → Q (.ref q) H') : rListOf K [v] H Q := by
  obtain ⟨p, rfl, l⟩ := l
  obtain ⟨ys, t, q⟩ := l.sq
  exact listOf_l t fun r H' hn hk ho => k r H' (h.newDl hk hn ⟨_, ho, q.im hk.im⟩)
theorem h_listOfT (h : Hs K B Z H L M) (m : Dt K Z H v (.tuple ds)) (k : ∀ q H', Hs K B Z H' (.dl K q ds true :: L) M → Q (.ref q) H') : rListOf K [v] H Q := by
  obtain ⟨a, ys, rfl, t, q⟩ := m.tup_inv
  exact listOf_t t.sq fun r H' hn hk ho => k r H' (h.newDl hk hn ⟨_, ho, q.im hk.im⟩)
/-! comparisons -/
theorem h_eq (h1 : Da K Z H x d) (h2 : Da K Z H y d') (hm : min d.depth d'.depth ≤ 60) (k : Q (.bl (PyData.eqv d d')) H) : rEqA K false x y H Q := ⟨d, d', h1.dp, h2.dp, h1.plain, h2.plain, hm, k⟩
theorem h_ne (h1 : Da K Z H x d) (h2 : Da K Z H y d') (hm : min d.depth d'.depth ≤ 60) (k : Q (.bl (!PyData.eqv d d')) H) : rEqA K true x y H Q := ⟨d, d', h1.dp, h2.dp, h1.plain, h2.plain, hm, k⟩
theorem h_inL (h1 : Dt K Z H x d) (h2 : Da K Z H y (.list ds)) (hm : min (PyData.depthAll ds) d.depth ≤ 60) (k : Q (.bl (ds.any fun y => PyData.eqv y d)) H) : rInA K false x y H Q := ⟨d, ds, h1.dp, .inl h2.dp, h1.plain, plain_l h2.plain, hm, k⟩
theorem h_niL (h1 : Dt K Z H x d) (h2 : Da K Z H y (.list ds)) (hm : min (PyData.depthAll ds) d.depth ≤ 60) (k : Q (.bl (!(ds.any fun y => PyData.eqv y d))) H) : rInA K true x y H Q := ⟨d, ds, h1.dp, .inl h2.dp, h1.plain, plain_l h2.plain, hm, k⟩
theorem h_inT (h1 : Dt K Z H x d) (h2 : Dt K Z H y (.tuple ds)) (hm : min (PyData.depthAll ds) d.depth ≤ 60) (k : Q (.bl (ds.any fun y => PyData.eqv y d)) H) : rInA K false x y H Q := ⟨d, ds, h1.dp, .inr h2.dp, h1.plain, plain_t h2.plain, hm, k⟩
theorem h_niT (h1 : Dt K Z H x d) (h2 : Dt K Z H y (.tuple ds)) (hm : min (PyData.depthAll ds) d.depth ≤ 60) (k : Q (.bl (!(ds.any fun y => PyData.eqv y d))) H) : rInA K true x y H Q := ⟨d, ds, h1.dp, .inr h2.dp, h1.plain, plain_t h2.plain, hm, k⟩
/-! walks -/
/-- the address of a tuple of data -/
def TA_ (v : V) : Addr := match v with | .ref a => a | _ => 0
theorem h_iL {R : It → Hp → Prop} (l : DLv K Z H v ds) (k : R (Itl K (TA_ v)) H) : ItLq K v R H := by
  obtain ⟨p, rfl, l⟩ := l
  obtain ⟨ys, t, q⟩ := l.sq
  exact ⟨p, rfl, ⟨ys, t⟩, k⟩
theorem h_iT {R : It → Hp → Prop} (m : Dt K Z H v (.tuple ds)) (k : R (Itt K (TA_ v)) H) : ItTq K v R H := by
  obtain ⟨a, ys, rfl, t, q⟩ := m.tup_inv
  exact ⟨a, rfl, ⟨ys, t.sq⟩, k⟩
variable {g : TG} {tb : TS} {D : Ends}
theorem l_dl {v : V} (ds : List PyData) (Pv : Nat → L2.St → Hp → Prop) (h0 : Pv 0 σ H) (hl : ∀ i σ H, i ≤ ds.length → Pv i σ H → ∃ Z, DLv K Z H v ds)
    (hs : ∀ i d x σ H, ds[i]? = some d → (∀ Z, DLv K Z H v ds → Dt K Z H x d) → Pv i σ H → g x σ H fun σ2 H2 => tb { D with nx := Pv (i + 1), ct := Pv (i + 1), bk := D.nx } σ2 H2) (hd : ∀ σ H, Pv ds.length σ H → D.nx σ H) : LoopQ (Itl K (TA_ v)) g tb D σ H := by
  refine ⟨fun i m σ H => m = ds.length - i ∧ i ≤ ds.length ∧ Pv i σ H, ⟨_, rfl, Nat.zero_le _, h0⟩, ?_⟩
  rintro i m σ H ⟨rfl, hi, p⟩
  obtain ⟨Z, a, rfl, l⟩ := hl i σ H hi p
  obtain ⟨xs, t, q⟩ := l.sq
  by_cases hlt : i < ds.length
  · obtain ⟨d, ed⟩ : ∃ d, ds[i]? = some d := ⟨_, List.getElem?_eq_getElem hlt⟩
    obtain ⟨x, ex, qx⟩ := q.at ed
    refine .inr ⟨⟨xs, x, t, ex⟩, Pv (i + 1), fun σ' H' p' => ⟨ds.length - (i + 1), by omega, rfl, hlt, p'⟩, ?_⟩
    rintro x' H' ⟨rfl, hx⟩
    have := hx xs t
    rw [ex] at this
    cases this
    refine hs i d x σ _ ed (fun Z' l' => ?_) p
    obtain ⟨a', e', l'⟩ := l'
    cases e'
    obtain ⟨xs', t', q'⟩ := l'.sq
    have h2 := hx xs' t'
    obtain ⟨x2, ex2, qx2⟩ := q'.at ed
    rw [ex2] at h2
    cases h2
    exact qx2
  · obtain rfl : i = ds.length := by omega
    exact .inl ⟨⟨xs, t, by rw [q.length]; exact Nat.le_refl _⟩, hd σ H p⟩
theorem l_dt {v : V} (ds : List PyData) (Pv : Nat → L2.St → Hp → Prop) (h0 : Pv 0 σ H) (hl : ∀ i σ H, i ≤ ds.length → Pv i σ H → ∃ Z, Dt K Z H v (.tuple ds))
    (hs : ∀ i d x σ H, ds[i]? = some d → (∀ Z, Dt K Z H v (.tuple ds) → Dt K Z H x d) → Pv i σ H → g x σ H fun σ2 H2 => tb { D with nx := Pv (i + 1), ct := Pv (i + 1), bk := D.nx } σ2 H2) (hd : ∀ σ H, Pv ds.length σ H → D.nx σ H) : LoopQ (Itt K (TA_ v)) g tb D σ H := by
  refine ⟨fun i m σ H => m = ds.length - i ∧ i ≤ ds.length ∧ Pv i σ H, ⟨_, rfl, Nat.zero_le _, h0⟩, ?_⟩
  rintro i m σ H ⟨rfl, hi, p⟩
  obtain ⟨Z, l⟩ := hl i σ H hi p
  obtain ⟨a, xs, rfl, t, q⟩ := l.tup_inv
  by_cases hlt : i < ds.length
  · obtain ⟨d, ed⟩ : ∃ d, ds[i]? = some d := ⟨_, List.getElem?_eq_getElem hlt⟩
    obtain ⟨x, ex, qx⟩ := q.at ed
    refine .inr ⟨⟨xs, x, t.sq, ex⟩, Pv (i + 1), fun σ' H' p' => ⟨ds.length - (i + 1), by omega, rfl, hlt, p'⟩, ?_⟩
    rintro x' H' ⟨rfl, hx⟩
    have := hx xs t.sq
    rw [ex] at this
    cases this
    refine hs i d x σ _ ed (fun Z' l' => ?_) p
    obtain ⟨a', xs', e', t', q'⟩ := l'.tup_inv
    cases e'
    have h2 := hx xs' t'.sq
    obtain ⟨x2, ex2, qx2⟩ := q'.at ed
    rw [ex2] at h2
    cases h2
    exact qx2
  · obtain rfl : i = ds.length := by omega
    exact .inl ⟨⟨xs, t.sq, by rw [q.length]; exact Nat.le_refl _⟩, hd σ H p⟩
/-! comprehensions: what a turn leaves -/
variable {tt : TT} {te : TE} {ns : List Nat}
/-- the item at the end of a turn -/
def AppD (K : PySem.W.Frag) (B : Bs) (Z : List Addr) (L : List Ent) (M : List (List V × List PyData)) (R : List PyData → Prop) (D : Addr) (acc : List PyData) (y : V) (H : Hp) : Prop := ∃ d, Dt K Z H y d ∧ R (acc ++ [d]) ∧ Hs K B Z H (.dl K D acc true :: L) M
theorem appD {R : List PyData → Prop} {D : Addr} {acc : List PyData} (q : Dt K Z H y d) (r : R (acc ++ [d])) (h : Hs K B Z H (.dl K D acc true :: L) M) : AppD K B Z L M R D acc y H := ⟨d, q, r, h⟩
theorem lc_body {R : List PyData → Prop} {D : Addr} {acc : List PyData} {Nx : Hp → Prop} (hl : acc.length < 100000) (nx : ∀ acc' H', R acc' → Hs K B Z H' (.dl K D acc' true :: L) M → Nx H') (q : AppD K B Z L M R D acc y H) : AppE D y H Nx := by
  obtain ⟨d, qd, r, h⟩ := q
  obtain ⟨ys, ey, qs⟩ := h.dl .here
  refine appE ey (by rw [qs.length]; exact hl) fun H' hk ho => nx _ H' r (h.putDl .here hk ⟨_, ho, (qs.append (.cons qd .nil)).im (h.imDl .here hk)⟩)
end
end U
set_option Elab.async false
set_option linter.all false
set_option autoImplicit false
set_option maxRecDepth 100000
set_option maxHeartbeats 4000000
namespace U
open PySem PySem.Spec PyProof.Rows L2
section
variable {K : PySem.W.Frag} {B : Bs} {H H' : Hp} {Z Z' : List Addr} {L L' : List Ent} {M M' : List (List V × List PyData)} {e e' : Ent} {F : Ent → List Ent} {a p : Addr} {Q : VK} {v x y : V} {d d' : PyData} {ds es : List PyData} {vs xs : List V} {w : Bool} {σ : L2.St}
/-! # less of a sentence -/
inductive Suf {α : Type} : List α → List α → Prop
  | refl {l : List α} : Suf l l
  | keep {l m : List α} {x : α} : Suf l m → Suf (x :: l) (x :: m)
  | cons {l m : List α} {x : α} : Suf l m → Suf l (x :: m)
theorem Suf.nil_ {α : Type} : ∀ l : List α, Suf [] l
  | [] => .refl
  | _ :: r => .cons (Suf.nil_ r)
theorem Suf.sl {α : Type} {l m : List α} (s : Suf l m) : l.Sublist m := by
  induction s with
  | refl => exact List.Sublist.refl _
  | keep _ ih => exact ih.cons₂ _
  | cons _ ih => exact ih.cons _
theorem Suf.sub {α : Type} {l m : List α} (s : Suf l m) : l ⊆ m := s.sl.subset
theorem Suf.pw {α : Type} {R : α → α → Prop} {l m : List α} (s : Suf l m) (h : m.Pairwise R) : l.Pairwise R := h.sublist s.sl
theorem Hs.wk (h : Hs K B Z H L' M') (l : Suf L L') (m : Suf M M') : Hs K B Z H L M :=
  ⟨h.kp, h.wl, h.zl, l.pw h.nd, fun x hx => h.zd x (l.sub hx), fun x hx => h.at_ x (l.sub hx), fun x hx => h.wr x (l.sub hx), fun x hx => h.dp x (m.sub hx), h.zn⟩
theorem Hs.rem (h : Hs K B Z H L M) (r : Rem L e L') : Hs K B Z H L' M := by
  obtain ⟨A, C, rfl, rfl⟩ := r.split
  have nd := h.nd
  rw [List.pairwise_append] at nd
  have sub : ∀ x ∈ A ++ C, x ∈ A ++ e :: C := fun x hx => by
    rcases List.mem_append.mp hx with z | z
    · simp [z]
    · simp [z]
  exact ⟨h.kp, h.wl, h.zl, by
    rw [List.pairwise_append]
    exact ⟨nd.1, (List.pairwise_cons.mp nd.2.1).2, fun x hx y hy => nd.2.2 x hx y (by simp [hy])⟩, fun x hx => h.zd x (sub x hx), fun x hx => h.at_ x (sub x hx), fun x hx => h.wr x (sub x hx), h.dp, h.zn⟩
/-! # comprehensions -/
def LcP (K : PySem.W.Frag) (B : Bs) (Z : List Addr) (L : List Ent) (M : List (List V × List PyData)) (R : Nat → List PyData → Prop) (D : Addr) (i : Nat) (H : Hp) : Prop := ∃ acc Z', Z ⊆ Z' ∧ R i acc ∧ acc.length ≤ i ∧ Hs K B Z' H (.dl K D acc true :: L) M
variable {g : TG} {tt : TT} {te : TE} {ns : List Nat} {R : Nat → List PyData → Prop} {D : Addr} {i : Nat} {acc : List PyData}
theorem lcE (h : Hs K B Z' H (.dl K D acc true :: L) M) (s : Z ⊆ Z') (hl : acc.length ≤ i) (hi : i < 100000) (q : Dt K Z' H y d) (r : R (i + 1) (acc ++ [d])) : AppE D y H (LcP K B Z L M R D (i + 1)) := by
  obtain ⟨ys, ey, qs⟩ := h.dl .here
  refine appE ey (by rw [qs.length]; omega) fun H' hk ho => ⟨acc ++ [d], Z', s, r, by rw [List.length_append]; show _ + 1 ≤ _; omega, h.putDl .here hk ⟨_, ho, (qs.append (.cons q .nil)).im (h.imDl .here hk)⟩⟩
theorem lcS (h : Hs K B Z' H (.dl K D acc true :: L) M) (s : Z ⊆ Z') (hl : acc.length ≤ i) (r : R (i + 1) acc) : LcP K B Z L M R D (i + 1) H := ⟨acc, Z', s, r, Nat.le_succ_of_le hl, h⟩
theorem h_lcL (ds : List PyData) (R : Nat → List PyData → Prop) (h : Hs K B Z H L M) (hl : ∀ D acc Z' H', Hs K B Z' H' (.dl K D acc true :: L) M → DLv K Z' H' v ds) (r0 : R 0 [])
    (turn : ∀ D i d x acc Z' H', ds[i]? = some d → R i acc → acc.length ≤ i → Z ⊆ Z' → Hs K B Z' H' (.dl K D acc true :: L) (([x], [d]) :: M) → g x (wipe σ ns) H' fun σ2 H2 => EndQ (wipe σ2 ns) (wipe σ ns) (tt σ2 H2 fun b H3 => Br b (fun H4 => te σ2 H4 fun y H5 => AppE D y H5 (LcP K B Z L M R D (i + 1))) (LcP K B Z L M R D (i + 1)) H3))
    (done : ∀ D acc Z' H', R ds.length acc → acc.length ≤ ds.length → Z ⊆ Z' → Hs K B Z' H' (.dl K D acc true :: L) M → Q (.ref D) H') : LcQ (Itl K (TA_ v)) g tt te ns σ Q H := by
  intro D hD
  have h0 := h.newDl (Kp.new hD) hD (ds := []) ⟨[], upd_same, .nil⟩
  refine ⟨fun i m H' => m = ds.length - i ∧ i ≤ ds.length ∧ LcP K B Z L M R D i H', ⟨_, rfl, Nat.zero_le _, [], Z, fun _ z => z, r0, Nat.le_refl _, h0⟩, ?_⟩
  rintro i m H' ⟨rfl, hi, acc, Z', sz, r, hacc, hs⟩
  obtain ⟨a, rfl, l⟩ := hl _ _ _ _ hs
  obtain ⟨xs, t, q⟩ := l.sq
  by_cases hlt : i < ds.length
  · obtain ⟨d, ed⟩ : ∃ d, ds[i]? = some d := ⟨_, List.getElem?_eq_getElem hlt⟩
    obtain ⟨x, ex, qx⟩ := q.at ed
    refine .inr ⟨⟨xs, x, t, ex⟩, LcP K B Z L M R D (i + 1), fun H2 p2 => ⟨ds.length - (i + 1), by omega, rfl, hlt, p2⟩, ?_⟩
    rintro x' H2 ⟨rfl, hx⟩
    have e2 := hx xs t
    rw [ex] at e2
    cases e2
    exact turn D i d x acc Z' _ ed r hacc sz (hs.fact1 qx)
  · obtain rfl : i = ds.length := by omega
    exact .inl ⟨⟨xs, t, by rw [q.length]; exact Nat.le_refl _⟩, done D acc Z' H' r hacc sz hs⟩
theorem h_lcT (ds : List PyData) (R : Nat → List PyData → Prop) (h : Hs K B Z H L M) (hl : ∀ D acc Z' H', Hs K B Z' H' (.dl K D acc true :: L) M → Dt K Z' H' v (.tuple ds)) (r0 : R 0 [])
    (turn : ∀ D i d x acc Z' H', ds[i]? = some d → R i acc → acc.length ≤ i → Z ⊆ Z' → Hs K B Z' H' (.dl K D acc true :: L) (([x], [d]) :: M) → g x (wipe σ ns) H' fun σ2 H2 => EndQ (wipe σ2 ns) (wipe σ ns) (tt σ2 H2 fun b H3 => Br b (fun H4 => te σ2 H4 fun y H5 => AppE D y H5 (LcP K B Z L M R D (i + 1))) (LcP K B Z L M R D (i + 1)) H3))
    (done : ∀ D acc Z' H', R ds.length acc → acc.length ≤ ds.length → Z ⊆ Z' → Hs K B Z' H' (.dl K D acc true :: L) M → Q (.ref D) H') : LcQ (Itt K (TA_ v)) g tt te ns σ Q H := by
  intro D hD
  have h0 := h.newDl (Kp.new hD) hD (ds := []) ⟨[], upd_same, .nil⟩
  refine ⟨fun i m H' => m = ds.length - i ∧ i ≤ ds.length ∧ LcP K B Z L M R D i H', ⟨_, rfl, Nat.zero_le _, [], Z, fun _ z => z, r0, Nat.le_refl _, h0⟩, ?_⟩
  rintro i m H' ⟨rfl, hi, acc, Z', sz, r, hacc, hs⟩
  obtain ⟨a, xs, rfl, t, q⟩ := (hl _ _ _ _ hs).tup_inv
  by_cases hlt : i < ds.length
  · obtain ⟨d, ed⟩ : ∃ d, ds[i]? = some d := ⟨_, List.getElem?_eq_getElem hlt⟩
    obtain ⟨x, ex, qx⟩ := q.at ed
    refine .inr ⟨⟨xs, x, t.sq, ex⟩, LcP K B Z L M R D (i + 1), fun H2 p2 => ⟨ds.length - (i + 1), by omega, rfl, hlt, p2⟩, ?_⟩
    rintro x' H2 ⟨rfl, hx⟩
    have e2 := hx xs t.sq
    rw [ex] at e2
    cases e2
    exact turn D i d x acc Z' _ ed r hacc sz (hs.fact1 qx)
  · obtain rfl : i = ds.length := by omega
    exact .inl ⟨⟨xs, t.sq, by rw [q.length]; exact Nat.le_refl _⟩, done D acc Z' H' r hacc sz hs⟩
theorem h_lcR {lo : Int} {n : Nat} (R : Nat → List PyData → Prop) (h : Hs K B Z H L M) (r0 : R 0 [])
    (turn : ∀ D i acc Z' H', i < n → R i acc → acc.length ≤ i → Z ⊆ Z' → Hs K B Z' H' (.dl K D acc true :: L) M → g (.int (lo + i)) (wipe σ ns) H' fun σ2 H2 => EndQ (wipe σ2 ns) (wipe σ ns) (tt σ2 H2 fun b H3 => Br b (fun H4 => te σ2 H4 fun y H5 => AppE D y H5 (LcP K B Z L M R D (i + 1))) (LcP K B Z L M R D (i + 1)) H3))
    (done : ∀ D acc Z' H', R n acc → acc.length ≤ n → Z ⊆ Z' → Hs K B Z' H' (.dl K D acc true :: L) M → Q (.ref D) H') : LcQ (Itr lo n) g tt te ns σ Q H :=
  l_lcR (LcP K B Z L M R) (fun D H' hD hk ho => ⟨[], Z, fun _ z => z, r0, Nat.le_refl _, h.newDl hk hD ⟨[], ho, .nil⟩⟩)
    (fun D i H' hD hi ⟨acc, Z', sz, r, hacc, hs⟩ => turn D i acc Z' H' hi r hacc sz hs) (fun D H' hD ⟨acc, Z', sz, r, hacc, hs⟩ => done D acc Z' H' r hacc sz hs)
/-! # promises about data -/
/-- what comes back: data whose lists are the callee's own or came with the arguments -/
def Rv (K : PySem.W.Frag) (Z : List Addr) (H H' : Hp) (v : V) (d : PyData) : Prop := ∃ Zr : List Addr, (∀ z ∈ Zr, z ∈ Z ∨ H z = none) ∧ (∀ z ∈ Zr, ∃ o, H' z = some o) ∧ Dt K Zr H' v d
def spV (K : PySem.W.Frag) (S : List PyData → (PyData → Prop) → Prop) : Sp := fun vs H Q _ => ∃ Z ds, (∀ z ∈ Z, ∃ o, H z = some o) ∧ Dts K Z H vs ds ∧ S ds fun d => ∀ v H', Kp [] H H' → Rv K Z H H' v d → Q v H'
def spW (K : PySem.W.Frag) (S : List PyData → (PyData → Prop) → Prop) : Sp := fun vs H Q _ => ∃ a us Z ds, vs = .ref a :: us ∧ Pool H a ∧ a ∉ Z ∧ (∀ z ∈ Z, ∃ o, H z = some o) ∧ Dts K Z H us ds ∧ S ds fun d => ∀ v H', Kp [a] H H' → Pool H' a → Rv K Z H H' v d → Q v H'
def Rl (K : PySem.W.Frag) (Z : List Addr) (H H' : Hp) (p : Addr) (ds : List PyData) : Prop := H p = none ∧ ∃ Zr : List Addr, (∀ z ∈ Zr, z ∈ Z ∨ H z = none) ∧ (∀ z ∈ Zr, ∃ o, H' z = some o) ∧ p ∉ Zr ∧ DL K Zr H' p ds
/-- .. a list of its own -/
def spVL (K : PySem.W.Frag) (S : List PyData → (List PyData → Prop) → Prop) : Sp := fun vs H Q _ => ∃ Z ds, (∀ z ∈ Z, ∃ o, H z = some o) ∧ Dts K Z H vs ds ∧ S ds fun es => ∀ p H', Kp [] H H' → Rl K Z H H' p es → Q (.ref p) H'
def spWL (K : PySem.W.Frag) (S : List PyData → (List PyData → Prop) → Prop) : Sp := fun vs H Q _ => ∃ a us Z ds, vs = .ref a :: us ∧ Pool H a ∧ a ∉ Z ∧ (∀ z ∈ Z, ∃ o, H z = some o) ∧ Dts K Z H us ds ∧ S ds fun es => ∀ p H', Kp [a] H H' → Pool H' a → Rl K Z H H' p es → Q (.ref p) H'
/-- the caller goes on -/
def RetG (K : PySem.W.Frag) (B : Bs) (Z : List Addr) (H : Hp) (L : List Ent) (M : List (List V × List PyData)) (Q : VK) (d : PyData) : Prop := ∀ v H', Hs K B Z H' L M → Rv K Z H H' v d → Hs K B Z H L M → Q v H'
def RetL (K : PySem.W.Frag) (B : Bs) (Z : List Addr) (H : Hp) (L : List Ent) (M : List (List V × List PyData)) (Q : VK) (ds : List PyData) : Prop := ∀ p H', Hs K B Z H' L M → Rl K Z H H' p ds → Hs K B Z H L M → Q (.ref p) H'
theorem Hs.callW {E : XK} (h : Hs K B Z H L M) (l : Loc L (.pool a) F) {H' : Hp} (k : Kp [a] H H') (p : Pool H' a) : Hs K B Z H' L M := by
  obtain ⟨A, C, rfl, q⟩ := l.split
  have r := h.put (e' := .pool a) l rfl k (fun x hx => hx) (fun x hx => hx) (fun x hx zs => by
    obtain ⟨c, y, n, j, e⟩ := h.pool l
    rw [one_mem hx, e]; intro z; cases z) p (fun x hx => .inl hx)
  rw [q] at r
  exact r
theorem k_v {S : List PyData → (PyData → Prop) → Prop} {E : XK} (h : Hs K B Z H L M) (q : Dts K Z H vs ds) (s : S ds (RetG K B Z H L M Q)) (mono : ∀ φ ψ : PyData → Prop, (∀ d, φ d → ψ d) → S ds φ → S ds ψ) : spV K S vs H Q E :=
  ⟨Z, ds, h.zl, q, mono _ _ (fun d r v H' k rv => r v H' (h.same k) rv h) s⟩
theorem k_w {S : List PyData → (PyData → Prop) → Prop} {E : XK} (h : Hs K B Z H L M) (l : Loc L (.pool a) F) (q : Dts K Z H vs ds) (s : S ds (RetG K B Z H L M Q)) (mono : ∀ φ ψ : PyData → Prop, (∀ d, φ d → ψ d) → S ds φ → S ds ψ) : spW K S (.ref a :: vs) H Q E :=
  ⟨a, vs, Z, ds, rfl, h.pool l, h.zd _ l.mem a (by simp [Ent.pool]), h.zl, q, mono _ _ (fun d r v H' k p rv => r v H' (h.callW (E := E) l k p) rv h) s⟩
theorem k_vl {S : List PyData → (List PyData → Prop) → Prop} {E : XK} (h : Hs K B Z H L M) (q : Dts K Z H vs ds) (s : S ds (RetL K B Z H L M Q)) (mono : ∀ φ ψ : List PyData → Prop, (∀ d, φ d → ψ d) → S ds φ → S ds ψ) : spVL K S vs H Q E :=
  ⟨Z, ds, h.zl, q, mono _ _ (fun d r v H' k rv => r v H' (h.same k) rv h) s⟩
theorem k_wl {S : List PyData → (List PyData → Prop) → Prop} {E : XK} (h : Hs K B Z H L M) (l : Loc L (.pool a) F) (q : Dts K Z H vs ds) (s : S ds (RetL K B Z H L M Q)) (mono : ∀ φ ψ : List PyData → Prop, (∀ d, φ d → ψ d) → S ds φ → S ds ψ) : spWL K S (.ref a :: vs) H Q E :=
  ⟨a, vs, Z, ds, rfl, h.pool l, h.zd _ l.mem a (by simp [Ent.pool]), h.zl, q, mono _ _ (fun d r v H' k p rv => r v H' (h.callW (E := E) l k p) rv h) s⟩
theorem ret_int {i : Int} (k : ∀ H', Hs K B Z H' L M → Q (.int i) H') : RetG K B Z H L M Q (.int i) := fun v H' h ⟨_, _, _, q⟩ _ => by rw [q.int_inv]; exact k H' h
theorem ret_str {z : Str} (k : ∀ H', Hs K B Z H' L M → Q (.str z) H') : RetG K B Z H L M Q (.str z) := fun v H' h ⟨_, _, _, q⟩ _ => by rw [q.str_inv]; exact k H' h
theorem ret_bl {b : Bool} (k : ∀ H', Hs K B Z H' L M → Q (.bl b) H') : RetG K B Z H L M Q (.bool b) := fun v H' h ⟨_, _, _, q⟩ _ => by rw [q.bl_inv]; exact k H' h
theorem ret_non (k : ∀ H', Hs K B Z H' L M → Q .non H') : RetG K B Z H L M Q .none := fun v H' h ⟨_, _, _, q⟩ _ => by rw [q.non_inv]; exact k H' h
theorem Hs.addZ {Zr : List Addr} (h : Hs K B Z H' L M) (h0 : Hs K B Z H L M) (ok : ∀ z ∈ Zr, z ∈ Z ∨ H z = none) (al : ∀ z ∈ Zr, ∃ o, H' z = some o) : Hs K B (Zr ++ Z) H' L M :=
  h.moreZ (List.subset_append_right _ _) (fun a ha => by rcases List.mem_append.mp ha with z | z; exact al a z; exact h.zl a z)
    (fun x hx a ha hb => by
      rcases List.mem_append.mp hb with z | z
      · rcases ok a z with y | y
        · exact h.zd x hx a ha y
        · exact h0.efree y hx ha
      · exact h.zd x hx a ha z)
    fun a ha => by
      rcases List.mem_append.mp ha with z | z
      · rcases ok a z with y | y
        · exact h.zn a y
        · exact .inr (.inr (h0.free y))
      · exact h.zn a z
theorem ret_any (k : ∀ v Z' H', Z ⊆ Z' → Hs K B Z' H' L (([v], [d]) :: M) → Q v H') : RetG K B Z H L M Q d := fun v H' h ⟨Zr, ok, al, q⟩ h0 =>
  k v _ H' (List.subset_append_right Zr Z) ((h.addZ h0 ok al).fact1 (Dt.zs (List.subset_append_left _ _) _ _ q))
theorem retL (k : ∀ p Z' H', Z ⊆ Z' → Hs K B Z' H' (.dl K p ds true :: L) M → Q (.ref p) H') : RetL K B Z H L M Q ds := fun p H' h ⟨n, Zr, ok, al, np, xs, e, q⟩ h0 => by
  refine k p _ H' (List.subset_append_right Zr Z) ((h.addZ h0 ok al).ent (.dl K p ds true) ⟨xs, e, q.zs (List.subset_append_left _ _)⟩ (fun x hx b hb => ?_) (fun b hb => ?_) (fun _ b hb => ?_))
  · rw [one_mem hb]; exact h0.efree n hx
  · rw [one_mem hb]
    intro z
    rcases List.mem_append.mp z with z | z
    · exact np z
    · exact h0.zfree n z
  · rw [one_mem hb]; exact .inr (h0.free n)
/-! the def is left -/
variable {H0 : Hp} {Z0 : List Addr}
theorem fin_v (h : Hs K ⟨H0, [], Z0⟩ Z H L M) (q : Dt K Z H v d) (k : ∀ v H', Kp [] H0 H' → Rv K Z0 H0 H' v d → Q v H') : Q v H :=
  k v H h.kp ⟨Z, fun z hz => by
    rcases h.zn z hz with y | y | y
    · exact .inl y
    · cases y
    · exact .inr y, h.zl, q⟩
theorem Hs.znW (h : Hs K ⟨H0, [a], Z0⟩ Z H L M) (l : Loc L (.pool a) F) : ∀ z ∈ Z, z ∈ Z0 ∨ H0 z = none := fun z hz => by
  rcases h.zn z hz with y | y | y
  · exact .inl y
  · have : z = a := one_mem y
    subst this
    exact absurd hz (h.zd _ l.mem z (by simp [Ent.pool]))
  · exact .inr y
theorem fin_w (h : Hs K ⟨H0, [a], Z0⟩ Z H L M) (l : Loc L (.pool a) F) (q : Dt K Z H v d) (k : ∀ v H', Kp [a] H0 H' → Pool H' a → Rv K Z0 H0 H' v d → Q v H') : Q v H :=
  k v H h.kp (h.pool l) ⟨Z, h.znW l, h.zl, q⟩
theorem Hs.newP (h : Hs K B Z H L M) (l : Loc L (.dl K p ds true) F) (nw : p ∉ B.W) : B.H0 p = none := by
  rcases h.wr _ l.mem rfl p (by simp [Ent.dl]) with z | z
  · exact absurd z nw
  · exact z
theorem fin_vl (h : Hs K ⟨H0, [], Z0⟩ Z H L M) (l : Loc L (.dl K p ds true) F) (k : ∀ p H', Kp [] H0 H' → Rl K Z0 H0 H' p ds → Q (.ref p) H') : Q (.ref p) H :=
  k p H h.kp ⟨h.newP l (by simp), Z, fun z hz => by
    rcases h.zn z hz with y | y | y
    · exact .inl y
    · cases y
    · exact .inr y, h.zl, h.zd _ l.mem p (by simp [Ent.dl]), h.dl l⟩
theorem fin_wl {F' : Ent → List Ent} (h : Hs K ⟨H0, [a], Z0⟩ Z H L M) (l : Loc L (.dl K p ds true) F) (l' : Loc L (.pool a) F') (k : ∀ p H', Kp [a] H0 H' → Pool H' a → Rl K Z0 H0 H' p ds → Q (.ref p) H') : Q (.ref p) H :=
  k p H h.kp (h.pool l') ⟨h.newP l (by simpa using h.nePool l l'), Z, h.znW l', h.zl, h.zd _ l.mem p (by simp [Ent.dl]), h.dl l⟩
/-- the def is entered -/
theorem in_v (zl : ∀ z ∈ Z, ∃ o, H z = some o) (q : Dts K Z H vs ds) : Hs K ⟨H, [], Z⟩ Z H [] [(vs, ds)] := (Hs.start (fun _ z => by cases z) zl).fact q
theorem in_w (p : Pool H a) (na : a ∉ Z) (zl : ∀ z ∈ Z, ∃ o, H z = some o) (q : Dts K Z H vs ds) : Hs K ⟨H, [a], Z⟩ Z H [.pool a] [(vs, ds)] :=
  ((Hs.start (fun b hb => by
    obtain ⟨c, x, n, k, e⟩ := p
    rw [one_mem hb]; exact ⟨_, e⟩) zl).ent (.pool a) p (fun _ z => by cases z) (fun b hb => by rw [one_mem hb]; exact na) (fun _ b hb => .inl hb)).fact q
/-- the facts of the arguments, one by one -/
theorem Hs.arg (h : Hs K B Z H L ((vs, d :: ds) :: M)) : ∃ x xs, vs = x :: xs ∧ Hs K B Z H L ((xs, ds) :: ([x], [d]) :: M) := by
  have q := h.dp _ List.mem_cons_self
  cases q with
  | cons h1 h2 => exact ⟨_, _, rfl, (h.tl.fact1 h1).fact h2⟩
theorem Hs.argN (h : Hs K B Z H L ((vs, []) :: M)) : vs = [] ∧ Hs K B Z H L M := by
  have q := h.dp _ List.mem_cons_self
  cases q
  exact ⟨rfl, h.tl⟩
theorem Hs.arg_int {i : Int} (h : Hs K B Z H L (([x], [.int i]) :: M)) : x = .int i := (h.dt List.mem_cons_self).int_inv
theorem Hs.arg_str {z : Str} (h : Hs K B Z H L (([x], [.str z]) :: M)) : x = .str z := (h.dt List.mem_cons_self).str_inv
end
end U
set_option Elab.async false
set_option linter.all false
set_option autoImplicit false
set_option maxRecDepth 100000
set_option maxHeartbeats 4000000
namespace U
open PySem PySem.Spec PyProof.Rows L2
section
variable {K : PySem.W.Frag} {B : Bs} {H H' : Hp} {Z Z' : List Addr} {L L' : List Ent} {M M' : List (List V × List PyData)} {e e' : Ent} {F : Ent → List Ent} {a p : Addr} {Q : VK} {v x y : V} {d d' : PyData} {ds es : List PyData} {vs xs : List V} {w : Bool} {σ : L2.St}
theorem Hs.argI {i : Int} (h : Hs K B Z H L ((vs, .int i :: ds) :: M)) : ∃ xs, vs = .int i :: xs ∧ Hs K B Z H L ((xs, ds) :: M) := by
  have q := h.dp _ List.mem_cons_self
  cases q with
  | cons h1 h2 => obtain rfl := h1.int_inv; exact ⟨_, rfl, h.tl.fact h2⟩
theorem Hs.argS {z : Str} (h : Hs K B Z H L ((vs, .str z :: ds) :: M)) : ∃ xs, vs = .str z :: xs ∧ Hs K B Z H L ((xs, ds) :: M) := by
  have q := h.dp _ List.mem_cons_self
  cases q with
  | cons h1 h2 => obtain rfl := h1.str_inv; exact ⟨_, rfl, h.tl.fact h2⟩
theorem Hs.argB {z : Bool} (h : Hs K B Z H L ((vs, .bool z :: ds) :: M)) : ∃ xs, vs = .bl z :: xs ∧ Hs K B Z H L ((xs, ds) :: M) := by
  have q := h.dp _ List.mem_cons_self
  cases q with
  | cons h1 h2 => obtain rfl := h1.bl_inv; exact ⟨_, rfl, h.tl.fact h2⟩
theorem k_vA {S : List PyData → (PyData → Prop) → Prop} {E : XK} (h : Hs K B Z H L M) (q : Dts K Z H vs ds) (mono : ∀ φ ψ : PyData → Prop, (∀ d, φ d → ψ d) → S ds φ → S ds ψ) (s : S ds (RetG K B Z H L M Q)) : spV K S (vs ++ []) H Q E := by
  rw [List.append_nil]; exact k_v h q s mono
theorem k_wA {S : List PyData → (PyData → Prop) → Prop} {E : XK} (h : Hs K B Z H L M) (l : Loc L (.pool a) F) (q : Dts K Z H vs ds) (mono : ∀ φ ψ : PyData → Prop, (∀ d, φ d → ψ d) → S ds φ → S ds ψ) (s : S ds (RetG K B Z H L M Q)) : spW K S ((.ref a :: vs) ++ []) H Q E := by
  rw [List.append_nil]; exact k_w h l q s mono
theorem k_vlA {S : List PyData → (List PyData → Prop) → Prop} {E : XK} (h : Hs K B Z H L M) (q : Dts K Z H vs ds) (mono : ∀ φ ψ : List PyData → Prop, (∀ d, φ d → ψ d) → S ds φ → S ds ψ) (s : S ds (RetL K B Z H L M Q)) : spVL K S (vs ++ []) H Q E := by
  rw [List.append_nil]; exact k_vl h q s mono
theorem k_wlA {S : List PyData → (List PyData → Prop) → Prop} {E : XK} (h : Hs K B Z H L M) (l : Loc L (.pool a) F) (q : Dts K Z H vs ds) (mono : ∀ φ ψ : List PyData → Prop, (∀ d, φ d → ψ d) → S ds φ → S ds ψ) (s : S ds (RetL K B Z H L M Q)) : spWL K S ((.ref a :: vs) ++ []) H Q E := by
  rw [List.append_nil]; exact k_wl h l q s mono
end
/-! # data without truth values: == is equality -/
mutual
def noB : PyData → Bool
  | .none | .int _ | .str _ => true
  | .bool _ | .dict _ => false
  | .list xs | .tuple xs => noBs xs
def noBs : List PyData → Bool
  | [] => true
  | x :: xs => noB x && noBs xs
end
mutual
theorem eqv_iff : ∀ d e : PyData, noB d = true → noB e = true → (PyData.eqv d e = true ↔ d = e)
  | .none, .none, _, _ => by simp [PyData.eqv]
  | .int i, .int j, _, _ => by simp [PyData.eqv]
  | .str i, .str j, _, _ => by simp [PyData.eqv]
  | .list xs, .list ys, h, h' => by
    simp only [PyData.eqv, PyData.list.injEq]
    exact eqvAll_iff xs ys (by simpa [noB] using h) (by simpa [noB] using h')
  | .tuple xs, .tuple ys, h, h' => by
    simp only [PyData.eqv, PyData.tuple.injEq]
    exact eqvAll_iff xs ys (by simpa [noB] using h) (by simpa [noB] using h')
  | .none, .int _, _, _ | .none, .str _, _, _ | .none, .list _, _, _ | .none, .tuple _, _, _ => by simp [PyData.eqv]
  | .int _, .none, _, _ | .int _, .str _, _, _ | .int _, .list _, _, _ | .int _, .tuple _, _, _ => by simp [PyData.eqv]
  | .str _, .none, _, _ | .str _, .int _, _, _ | .str _, .list _, _, _ | .str _, .tuple _, _, _ => by simp [PyData.eqv]
  | .list _, .none, _, _ | .list _, .int _, _, _ | .list _, .str _, _, _ | .list _, .tuple _, _, _ => by simp [PyData.eqv]
  | .tuple _, .none, _, _ | .tuple _, .int _, _, _ | .tuple _, .str _, _, _ | .tuple _, .list _, _, _ => by simp [PyData.eqv]
  | .bool _, _, h, _ => by simp [noB] at h
  | .dict _, _, h, _ => by simp [noB] at h
  | _, .bool _, _, h => by simp [noB] at h
  | _, .dict _, _, h => by simp [noB] at h
theorem eqvAll_iff : ∀ xs ys : List PyData, noBs xs = true → noBs ys = true → (PyData.eqvAll xs ys = true ↔ xs = ys)
  | [], [], _, _ => by simp [PyData.eqvAll]
  | x :: xs, y :: ys, h, h' => by
    simp only [noBs, Bool.and_eq_true] at h h'
    simp only [PyData.eqvAll, Bool.and_eq_true, List.cons.injEq, eqv_iff x y h.1 h'.1, eqvAll_iff xs ys h.2 h'.2]
  | [], _ :: _, _, _ => by simp [PyData.eqvAll]
  | _ :: _, [], _, _ => by simp [PyData.eqvAll]
end
theorem any_iff {xs : List PyData} {d : PyData} (h : noBs xs = true) (h' : noB d = true) : (xs.any fun y => PyData.eqv y d) = true ↔ d ∈ xs := by
  induction xs with
  | nil => simp
  | cons x xs ih =>
    simp only [noBs, Bool.and_eq_true] at h
    rw [List.any_cons, Bool.or_eq_true, ih h.2, eqv_iff x d h.1 h', List.mem_cons]
    constructor
    · rintro (z | z)
      · exact .inl z.symm
      · exact .inr z
    · rintro (z | z)
      · exact .inl z.symm
      · exact .inr z
theorem noBs_map {α : Type} (f : α → PyData) (h : ∀ x, noB (f x) = true) : ∀ l : List α, noBs (l.map f) = true
  | [] => rfl
  | x :: r => by simp [noBs, h x, noBs_map f h r]
theorem dep_map {α : Type} (f : α → PyData) (n : Nat) (h : ∀ x, (f x).depth ≤ n) : ∀ l : List α, PyData.depthAll (l.map f) ≤ n
  | [] => Nat.zero_le _
  | x :: r => by
    show max _ _ ≤ n
    exact Nat.max_le.mpr ⟨h x, dep_map f n h r⟩
end U
set_option Elab.async false
set_option linter.all false
set_option autoImplicit false
set_option maxRecDepth 100000
set_option maxHeartbeats 4000000
namespace U
open PySem PySem.Spec PyProof.Rows L2
/-! ## the values of a locked dict with tuple keys -/
section
variable {X : Cx} {pins : List (Addr × Obj)} {σ : L2.St} {H : Hp} {s : Shared} {d : Addr} {o : Obj}
theorem frzT_vals {kvs : List (List Key × V)} (I : Inv X pins σ H s) (h : H d = some (.frz o (.dT kvs))) :
    (d == sysModules) = false ∧ s.heap.get? d = some o ∧ o.ExactDict ∧ ∃ (es : Array DictEntry) (ep : Nat), o.data = .dict es ep ∧ es.size = kvs.length ∧
      ∀ (i : Nat) (k : List Key) (v : V), kvs[i]? = some (k, v) → ∃ (en : DictEntry), es[i]? = some en ∧ RelV v en.val := by
  obtain ⟨hd, z, hs, xs, pr, o', es, ep, ho, hx, hdt, he, _⟩ := I.hok d _ h
  rw [hd] at ho
  cases ho
  refine ⟨hs, hd, hx, es, ep, hdt, ?_, fun i k v e => ?_⟩
  · have l1 : es.size = xs.length := size_of_entries he
    have l2 : kvs.length = xs.length := Paired.length pr
    omega
  · obtain ⟨b, hb, e1, e2, e3⟩ := paired_get pr e
    have q := entry_at he i
    rw [hb] at q
    exact ⟨_, q, e3⟩
end
def Itdt (d : Addr) (o : Obj) (kvs : List (List Key × V)) : It :=
  ⟨fun i H => H d = some (.frz o (.dT kvs)) ∧ i < kvs.length, fun i H x H' => H' = H ∧ ∃ k, kvs[i]? = some (k, x), fun i H => H d = some (.frz o (.dT kvs)) ∧ kvs.length ≤ i⟩
section
variable {P : Program} {w : World} {K : PySem.W.Frag} {tg : Expr} {d : Addr} {o : Obj} {es : Array DictEntry} {ep : Nat}
theorem turn_valsT {kvs : List (List Key × V)} (it : Addr) (hod : o.data = .dict es ep) : Turn P w K tg (Itdt d o kvs) [it] it (fun i h => h.IsValIter it d i es.size ep) where
  mem := by simp
  obj := fun i h st b hb => by
    have e : b = it := by simpa using hb
    subst e
    obtain ⟨oi, e, c, dd⟩ := st
    exact ⟨oi, e, fun v z => by rw [dd] at z; cases z⟩
  keep := fun i h h' st k => by
    obtain ⟨oi, e, r⟩ := st
    exact ⟨oi, k it (by simp) oi e, r⟩
  item := by
    intro X hP hw hK hc i pins s σ H E I hf st hg
    subst hP hw hK
    obtain ⟨hd, hi⟩ := hg
    obtain ⟨f0, f1, f2, f3, f4, f5⟩ := hf it (by simp)
    obtain ⟨hs, hgd, hx, es', ep', hdt, hsz, ent⟩ := frzT_vals I hd
    obtain ⟨rfl, rfl⟩ := dict_ep hod hdt
    obtain ⟨⟨k, v⟩, hkv⟩ : ∃ p, kvs[i]? = some p := ⟨kvs[i], List.getElem?_eq_getElem hi⟩
    obtain ⟨en, hen, hrel⟩ := ent i k v hkv
    obtain ⟨hlt, hen2⟩ := Array.getElem?_eq_some_iff.mp hen
    refine wpAny_pyNext_values_item_raw st ⟨o, hgd, hx, hdt⟩ hlt fun h' st' sb => ?_
    have I1 : Inv X pins σ H { s with heap := h' } := I.turned (t' := s.toks) (fun b ob hb e => (sb.2 b hb).trans e) f0 f1 f3 f4 f5
    obtain ⟨oi, e, c, dd⟩ := id st'
    refine ⟨_, rfl, go_of (s := { s with heap := h' }) e c dd (by decide) ⟨v, H, I1, by rw [hen2]; exact hrel, ⟨rfl, k, hkv⟩, st', fun b hb => (hf b hb).1⟩⟩
  done := by
    intro X hP hw hK hc i pins s σ H E I hf st hg
    subst hP hw hK
    obtain ⟨hd, hi⟩ := hg
    obtain ⟨f0, f1, f2, f3, f4, f5⟩ := hf it (by simp)
    obtain ⟨hs, hgd, hx, es', ep', hdt, hsz, ent⟩ := frzT_vals I hd
    obtain ⟨rfl, rfl⟩ := dict_ep hod hdt
    exact wpAny_pyNext_values_end_raw (I.ok.hd hc) st ⟨o, hgd, hx, hdt⟩ (by rw [hsz]; exact hi) fun h' eb => ⟨rfl, I.turned (t' := s.toks) (fun b ob hb e => eb b ob hb e) f0 f1 f3 f4 f5⟩
  self := fun A i s Q E st h => wpAny_pyIter_valiter st h
end
def iValsT (td : TE) : TI := fun σ H R => td σ H fun x H1 => ∃ d o kvs, x = .ref d ∧ H1 d = some (.frz o (.dT kvs)) ∧ R (Itdt d o kvs) H1
section
variable {X : Cx} {tg e : Expr} {td : TE} {apos cpos : Pos}
theorem pi_valuesT (he : PE X e td) (hbase : attributeBase e "values" X.env (eval e X.env) = eval e X.env := by rfl) (hline : (apos.endLine == cpos.line) = true := by rfl) : PI X tg (.Call (.Attribute e "values" apos) [] [] cpos) (iValsT td) := by
  refine ⟨fun pins s σ H R I h => ?_⟩
  refine wpAny_Call_method (T := "dict") (id := "dict.values") hbase rfl hline F.plainAttrs_dict F.slot_dict_values F.type_dict_values (thn (he.run pins s σ H _ I h) fun u s1 ⟨x, H1, I1, rx, d, o, kvs, ex, hd, q⟩ => ?_)
  subst ex
  obtain rfl : u = Value.ref d := rx
  obtain ⟨hs, hgd, hx, es, ep, hdt, hsz, ent⟩ := frzT_vals I1 hd
  have hm : s1.heap.DictRaw d es ep := ⟨o, hgd, hx, hdt⟩
  refine ⟨hm.typeIs, fun b q => ?_, ?_⟩
  · cases q
    exact ⟨o, hgd, hx.2.1⟩
  have I2 : Inv X pins σ H1 { s1 with heap := s1.heap.push { cls := .type "dict_values", data := .fields #[.ref d] } } := I1.kept (t' := s1.toks) fun b ob q => Heap.get?_push_of_some _ q
  have fin : wpAny (model X.prog X.w) X.A (pyIter (.ref s1.heap.objs.size)) (PIE X pins σ tg R) X.xe { s1 with heap := s1.heap.push { cls := .type "dict_values", data := .fields #[.ref d] } } := by
    refine wpAny_pyIter_values_raw (d := d) ⟨_, Heap.get?_push_size _ rfl, rfl, rfl⟩ (hm.at fun o e => Heap.get?_push_of_some _ e) (pi_one (tk := s1.toks) I2 _ (turn_valsT _ hdt) ⟨_, Heap.get?_push_size _ rfl, rfl, rfl⟩ q)
  show wpAny _ _ (callWith cpos (.builtin "dict.values") [.ref d] [] []) _ X.xe s1
  exact method_meetsIn F.slot_dict_values F.entry_dict_values rfl (PySem.evalArgs_none ⟨rfl, hm.typeIs, F.args_dict_values_1 _, _, meets_dict_values_raw d hs, ⟨⟨es, ep, hm⟩, fin⟩⟩)
end
/-! ## min, max of a tuple of ints -/
def rMinT (K : PySem.W.Frag) : List V → Hp → VK → Prop := fun vs H Q => ∃ (a : Addr) (n : Int) (ns : List Int), vs = [V.ref a] ∧ SqT K H a ((n :: ns).map V.int) ∧ Q (.int (ns.foldl min n)) H
theorem alike_ints (ns : List Int) : PySem.W.AlikeAll (ns.map PyData.int) := by
  refine ⟨fun x hx y hy => ?_, fun x hx => ?_⟩
  · obtain ⟨i, _, rfl⟩ := List.mem_map.mp hx
    obtain ⟨j, _, rfl⟩ := List.mem_map.mp hy
    rfl
  · obtain ⟨i, _, rfl⟩ := List.mem_map.mp hx
    intro z; cases z
theorem dep_ints : ∀ ns : List Int, PyData.depthAll (ns.map PyData.int) = 0
  | [] => rfl
  | n :: r => by
    show max 0 (PyData.depthAll (r.map PyData.int)) = 0
    rw [dep_ints r]
    rfl
theorem dpAll_ints {K : PySem.W.Frag} {H : Hp} : ∀ ns : List Int, DpAll K H (ns.map V.int) (ns.map PyData.int)
  | [] => .nil
  | n :: r => .cons (.int n) (dpAll_ints r)
theorem cr_minT {X : Cx} (hc : X.calm = true) (hu : X.A.units + 64 < cLine) (K : PySem.W.Frag) (hK : X.K = K := by rfl) : CallR X (.builtin "min") (rMinT K) := by
  subst hK
  intro pins s σ H vs us Q I r h
  obtain ⟨a, n, ns, rfl, hs, q⟩ := h
  obtain ⟨its, rv, hl, _⟩ := I.tuple hs
  rw [Vals.ref1 r]
  obtain ⟨as, hr⟩ := Dp.readsAll I _ _ its (dpAll_ints (n :: ns)) rv
  obtain ⟨o, ho, hc', nn, hd⟩ := id hl
  refine PySem.W.min_tuple_data (vs := its.toArray) (x := .int n) (xs := ns.map .int) (as := as) (I.ok.hd hc) ⟨o, ho, hc', nn, hd⟩ (by simpa using hr) (alike_ints (n :: ns)) (by have := dep_ints (n :: ns); rw [List.map_cons] at this; rw [this]; omega) fun i v h' tk bs hi hrd hk => ?_
  rw [PySem.W.minD_ints] at hrd
  cases hrd
  exact ⟨.int _, H, I.kept hk, ⟨_, rfl⟩, q⟩
end U
set_option Elab.async false
set_option linter.all false
set_option autoImplicit false
set_option maxRecDepth 100000
set_option maxHeartbeats 4000000
namespace U
open PySem PySem.Spec PyProof.Rows L2
section
variable {X : Cx} (K : PySem.W.Frag)
theorem catAK (h : X.K = K := by rfl) : OpR X (binaryOp .Add) (rCatA K) := by subst h; exact op_catA
theorem sltAK (h : X.K = K := by rfl) : SlR X (rSlA K) := by subst h; exact sl_tupA
theorem repTK (h : X.K = K := by rfl) : OpR X (binaryOp .Mult) (rRepT K) := by subst h; exact op_repT
end
/-! ## list or tuple, whichever it is -/
def rIxA (K : PySem.W.Frag) : R2 := fun x y H Q => rIxL K x y H Q ∨ rIxT K x y H Q
theorem ixAK {X : Cx} (K : PySem.W.Frag) (hK : X.K = K := by rfl) : IxR X (rIxA K) := by
  subst hK
  intro value slice pins s σ H x y v u Q I rx ry h hs
  rcases h with h | h
  · exact ix_list value slice pins s σ H x y v u Q I rx ry h hs
  · exact ix_tup value slice pins s σ H x y v u Q I rx ry h hs
def ItA (K : PySem.W.Frag) (x : V) (R : It → Hp → Prop) (H : Hp) : Prop := ItLq K x R H ∨ ItTq K x R H
def iAny (K : PySem.W.Frag) (tl : TE) : TI := fun σ H R => tl σ H fun x H1 => ItA K x R H1
theorem piAK {X : Cx} {tg l : Expr} {tl : TE} (K : PySem.W.Frag) (hl : PE X l tl) (hK : X.K = K := by rfl) : PI X tg l (iAny K tl) := by
  subst hK
  refine ⟨fun pins s σ H R I h => ?_⟩
  refine thn (hl.run pins s σ H _ I h) fun v s1 ⟨x, H1, I1, r1, q1⟩ => ?_
  rcases q1 with ⟨a, e, ⟨xs, hq⟩, q⟩ | ⟨a, e, ⟨xs, hq⟩, q⟩
  · subst e
    cases r1
    obtain ⟨its, rv, p, hz⟩ := I1.list hq
    refine wpAny_pyIter_list p.isList ?_
    refine ⟨s1.heap.objs.size, [s1.heap.objs.size], _, _, H1, rfl, I1.kept (t' := s1.toks) fun b o e => Heap.get?_push_of_some _ e, turn_list a _, ⟨_, Heap.get?_push_size _ rfl, rfl, rfl⟩, fun b hb => ?_, q⟩
    have e : b = s1.heap.objs.size := by simpa using hb
    subst e
    exact I1.fpOk (Nat.le_refl _) (I1.hok.fresh (Nat.le_refl _))
  · subst e
    cases r1
    obtain ⟨its, rv, p, hz⟩ := I1.tuple hq
    refine wpAny_pyIter_tuple (show s1.heap.IsTuple a its.toArray from p) ?_
    refine ⟨s1.heap.objs.size, [s1.heap.objs.size], _, _, H1, rfl, I1.kept (t' := s1.toks) fun b o e => Heap.get?_push_of_some _ e, turn_tuple a _, ⟨_, Heap.get?_push_size _ rfl, rfl, rfl⟩, fun b hb => ?_, q⟩
    have e : b = s1.heap.objs.size := by simpa using hb
    subst e
    exact I1.fpOk (Nat.le_refl _) (I1.hok.fresh (Nat.le_refl _))
theorem u_iA {K : PySem.W.Frag} {tl : TE} {σ : L2.St} {H : Hp} {R : It → Hp → Prop} (h : tl σ H fun x H1 => ItA K x R H1) : iAny K tl σ H R := h
theorem u_chain {r r' : R2} {ta tb tc : TE} {σ : L2.St} {H : Hp} {Q : VK} (h : ta σ H fun x H1 => tb σ H1 fun y H2 => r x y H2 fun z H3 => TB z (fun k => Br k (fun H4 => tc σ H4 fun w' H5 => r' y w' H5 Q) (fun H4 => Q (.bl false) H4)) H3) : tChain r r' ta tb tc σ H Q := h
/-- x * n, x any short text -/
def rRepG : R2 := fun x y H Q => ∃ (z : Str) (n : Int), x = .str z ∧ y = .int n ∧ 0 ≤ n ∧ n ≤ 10000 ∧ z.length ≤ 1000 ∧ Q (.str (Txt.mul z n)) H
theorem o_repG {X : Cx} : OpR X (binaryOp .Mult) rRepG := by
  intro pins s σ H x y v u Q I rx ry h
  obtain ⟨c, n, rfl, rfl, h0, h1, hl, q⟩ := h
  obtain ⟨t, rfl⟩ := rx
  obtain ⟨t', rfl⟩ := ry
  refine PySem.SB.mul ⟨?_, fun p _ => ?_, fun p _ => ?_⟩ fun t' k => ⟨.str _, H, I.tok _, ⟨_, rfl⟩, q⟩
  · rw [Bool.or_eq_false_iff]
    exact ⟨decide_eq_false (by omega), decide_eq_false (by omega)⟩
  · have : (c.length : Int) ≤ (2 ^ 63 - 1) / n := by
      refine (Int.le_ediv_iff_mul_le (by omega)).mpr ?_
      have e1 : (c.length : Int) * n ≤ 1000 * 10000 := Int.mul_le_mul (by omega) h1 h0 (by omega)
      omega
    omega
  · unfold Builtin.Str.tooLong
    refine decide_eq_false ?_
    have e : sizeLine = 16777216 := by decide
    have e1 : c.length * n.toNat ≤ 1000 * 10000 := Nat.mul_le_mul hl (by omega)
    rw [e]
    omega
theorem f_repG {z : Str} {n : Int} {H : Hp} {Q : VK} (h0 : 0 ≤ n) (h1 : n ≤ 10000) (hl : z.length ≤ 1000) (k : ∀ y : Str, (y.length : Int) = z.length * n → Q (.str y) H) : rRepG (.str z) (.int n) H Q :=
  ⟨z, n, rfl, rfl, h0, h1, hl, k _ (by rw [PyProof.Rows.len_mul, decide_eq_false (show ¬ n < 0 by omega)]; rfl)⟩
theorem u_isNi {i : Int} {H : Hp} {Q : VK} (q : Q (.bl false) H) : rIsN (.int i) .non H Q := ⟨rfl, q⟩
theorem u_isNb {i : Bool} {H : Hp} {Q : VK} (q : Q (.bl false) H) : rIsN (.bl i) .non H Q := ⟨rfl, q⟩
theorem u_isNs {i : Str} {H : Hp} {Q : VK} (q : Q (.bl false) H) : rIsN (.str i) .non H Q := ⟨rfl, q⟩
mutual
/-- the longest list or tuple within -/
def wid : PyData → Nat
  | .list xs | .tuple xs => max xs.length (wids xs)
  | .none | .bool _ | .int _ | .str _ | .dict _ => 0
def wids : List PyData → Nat
  | [] => 0
  | x :: xs => max (wid x) (wids xs)
end
theorem wid_mem : ∀ {es : List PyData} {i : Nat} {e : PyData}, es[i]? = some e → wid e ≤ wids es
  | [], _, _, h => by cases h
  | a :: r, 0, e, h => by cases h; exact Nat.le_max_left _ _
  | a :: r, i + 1, e, h => Nat.le_trans (wid_mem (es := r) h) (Nat.le_max_right _ _)
theorem dep_mem : ∀ {es : List PyData} {i : Nat} {e : PyData}, es[i]? = some e → e.depth ≤ PyData.depthAll es
  | [], _, _, h => by cases h
  | a :: r, 0, e, h => by cases h; exact Nat.le_max_left _ _
  | a :: r, i + 1, e, h => Nat.le_trans (dep_mem (es := r) h) (Nat.le_max_right _ _)
theorem wid_map {α : Type} (f : α → PyData) (n : Nat) (h : ∀ x, wid (f x) ≤ n) : ∀ l : List α, wids (l.map f) ≤ n
  | [] => Nat.zero_le _
  | x :: r => by
    show max _ _ ≤ n
    exact Nat.max_le.mpr ⟨h x, wid_map f n h r⟩
def rUpp : V → List V → Hp → VK → Prop := fun x xs H Q => ∃ a, x = .str a ∧ xs = [] ∧ a.length ≤ 5592405 ∧ Q (.str (Txt.upper a)) H
theorem m_upper {X : Cx} : MtR X "str.upper" rUpp := mt_upper
theorem f_upp {a : Str} {H : Hp} {Q : VK} (h : a.length ≤ 100000) (k : ∀ z, Str.length z ≤ 3 * a.length → Q (.str z) H) : rUpp (.str a) [] H Q := ⟨a, rfl, rfl, by omega, k _ (PyProof.Rows.len_upper a)⟩
section
variable {K : PySem.W.Frag} {B : Bs} {H H' : Hp} {Z Z' : List Addr} {L L' : List Ent} {M M' : List (List V × List PyData)} {e e' : Ent} {F : Ent → List Ent} {a p : Addr} {Q : VK} {v x y : V} {d d' : PyData} {ds es : List PyData} {vs xs : List V} {w : Bool} {σ : L2.St}
theorem h_slT {lo hi : Option Int} (h : Hs K B Z H L M) (m : Dt K Z H v (.tuple ds)) (k : ∀ q H', Hs K B Z H' L (([q], [.tuple (cutD ds lo hi)]) :: M) → Q q H') : rSlA K v lo hi H Q := by
  obtain ⟨a, ys, rfl, t, q⟩ := m.tup_inv
  refine ⟨a, ys, rfl, t.sq, fun hw => ?_, fun hw p hp => k _ _ ((h.same (Kp.new hp)).fact1 (.tup upd_same (q.cut.im (Kp.new hp).im)))⟩
  have e : cutD ds lo hi = ds := by
    unfold cutD
    rw [q.length] at hw
    rw [hw.1, hw.2, List.drop_zero, Nat.sub_zero, List.take_length]
  exact k _ _ (h.fact1 (by rw [e]; exact m))
theorem cut_to3 {d1 d2 d3 : PyData} {ds : List PyData} : cutD (d1 :: d2 :: d3 :: ds) none (some 3) = [d1, d2, d3] := by
  unfold cutD
  have e : HT.sIx (d1 :: d2 :: d3 :: ds).length (d1 :: d2 :: d3 :: ds).length (some 3) = 3 := by
    show HT.sIx _ _ (some ((3 : Nat) : Int)) = 3
    rw [HT.sIx_nat]
    simp only [List.length_cons]
    omega
  rw [e]
  rfl
theorem cut_from1 {d1 : PyData} {ds : List PyData} : cutD (d1 :: ds) (some 1) none = ds := by
  unfold cutD
  have e : HT.sIx (d1 :: ds).length 0 (some 1) = 1 := by
    show HT.sIx _ _ (some ((1 : Nat) : Int)) = 1
    rw [HT.sIx_nat]
    simp only [List.length_cons]
    omega
  have e2 : HT.sIx (d1 :: ds).length (d1 :: ds).length none = ds.length + 1 := rfl
  rw [e, e2, Nat.add_sub_cancel]
  show ds.take ds.length = ds
  exact List.take_length
theorem h_sl3 {d1 d2 d3 : PyData} (h : Hs K B Z H L M) (m : Dt K Z H v (.tuple (d1 :: d2 :: d3 :: ds))) (k : ∀ q H', Hs K B Z H' L (([q], [.tuple [d1, d2, d3]]) :: M) → Q q H') : rSlA K v none (some 3) H Q :=
  h_slT h m fun q H' h' => k q H' (by rw [cut_to3] at h'; exact h')
theorem h_slf1 {d1 : PyData} (h : Hs K B Z H L M) (m : Dt K Z H v (.tuple (d1 :: ds))) (k : ∀ q H', Hs K B Z H' L (([q], [.tuple ds]) :: M) → Q q H') : rSlA K v (some 1) none H Q :=
  h_slT h m fun q H' h' => k q H' (by rw [cut_from1] at h'; exact h')
theorem map_snoc {α β : Type} (f : α → β) (l : List α) (c : α) : (l ++ [c]).map f = l.map f ++ [f c] := by simp
theorem h_catT (h : Hs K B Z H L M) (m : Dt K Z H x (.tuple ds)) (m' : Dt K Z H y (.tuple es)) (hl : ds.length + es.length ≤ 100000) (k : ∀ q H', Hs K B Z H' L (([q], [.tuple (ds ++ es)]) :: M) → Q q H') : rCatA K x y H Q := by
  obtain ⟨a, ys, rfl, t, q⟩ := m.tup_inv
  obtain ⟨b, zs, rfl, t', q'⟩ := m'.tup_inv
  refine ⟨a, b, ys, zs, rfl, rfl, t.sq, t'.sq, sl5 (by rw [q.length, q'.length]; exact hl), fun e => ?_, fun e e' => ?_, fun e e' p hp => ?_⟩
  all_goals first
    | exact k _ _ ((h.same (Kp.new hp)).fact1 (.tup upd_same ((q.append q').im (Kp.new hp).im)))
    | skip
  · subst e
    have e2 : ds = [] := List.eq_nil_of_length_eq_zero (by have := q.length; simp at this; omega)
    exact k _ _ (h.fact1 (by rw [e2]; exact m'))
  · subst e'
    have e2 : es = [] := List.eq_nil_of_length_eq_zero (by have := q'.length; simp at this; omega)
    exact k _ _ (h.fact1 (by rw [e2, List.append_nil]; exact m))
theorem h_catTe {fs : List PyData} (h : Hs K B Z H L M) (m : Dt K Z H x (.tuple ds)) (m' : Dt K Z H y (.tuple es)) (hl : ds.length + es.length ≤ 100000) (e : ds ++ es = fs) (k : ∀ q H', Hs K B Z H' L (([q], [.tuple fs]) :: M) → Q q H') : rCatA K x y H Q := by
  subst e
  exact h_catT h m m' hl k
theorem h_catLe {fs : List PyData} (h : Hs K B Z H L M) (l : DLv K Z H x ds) (l' : DLv K Z H y es) (hl : ds.length + es.length ≤ 100000) (e : ds ++ es = fs) (k : ∀ q H', Hs K B Z H' (.dl K q fs true :: L) M → Q (.ref q) H') : rCat x y H Q := by
  subst e
  exact h_catL h l l' hl k
theorem Dts.ints_inv : ∀ (ns : List Int) {xs : List V}, Dts K Z H xs (ns.map PyData.int) → xs = ns.map V.int
  | [], _, h => by cases h; rfl
  | n :: r, _, h => by
    cases h with
    | cons h1 h2 => rw [h1.int_inv, Dts.ints_inv r h2]; rfl
theorem h_ixLm {i : Int} (h : Hs K B Z H L M) (l : DLv K Z H v ds) (h0 : 0 ≤ i) (h1 : i < ds.length) (k : ∀ d ∈ ds, ∀ x, Dt K Z H x d → Hs K B Z H L (([x], [d]) :: M) → Q x H) : rIxL K v (.int i) H Q := by
  obtain ⟨n, rfl⟩ : ∃ n : Nat, i = (n : Int) := ⟨i.toNat, by omega⟩
  have hn : n < ds.length := by omega
  have e : ds[n]? = some ds[n] := List.getElem?_eq_getElem hn
  exact h_ixL h l (atI_nat e) fun x q hs => k _ (List.getElem_mem hn) x q hs
theorem h_ixLz {N : Nat} {i : Int} (h : Hs K B Z H L M) (l : DLv K Z H v ds) (h0 : 0 ≤ i) (h1 : i < ds.length) (ha : ∀ d ∈ ds, ∃ z : Str, d = .str z ∧ z.length ≤ N) (k : ∀ z : Str, z.length ≤ N → Q (.str z) H) : rIxL K v (.int i) H Q :=
  h_ixLm h l h0 h1 fun d hd x q _ => by
    obtain ⟨z, rfl, hz⟩ := ha d hd
    rw [q.str_inv]
    exact k z hz
theorem h_ixLn {lo hi i : Int} (h : Hs K B Z H L M) (l : DLv K Z H v ds) (h0 : 0 ≤ i) (h1 : i < ds.length) (ha : ∀ d ∈ ds, ∃ z : Int, d = .int z ∧ lo ≤ z ∧ z ≤ hi) (k : ∀ z : Int, lo ≤ z → z ≤ hi → Q (.int z) H) : rIxL K v (.int i) H Q :=
  h_ixLm h l h0 h1 fun d hd x q _ => by
    obtain ⟨z, rfl, h1, h2⟩ := ha d hd
    rw [q.int_inv]
    exact k z h1 h2
theorem cutD_map {α : Type} (f : α → PyData) (l : List α) (lo hi : Option Int) : ∃ l' : List α, cutD (l.map f) lo hi = l'.map f ∧ l'.length ≤ l.length ∧ ∀ x ∈ l', x ∈ l := by
  refine ⟨(l.drop (HT.sIx (l.map f).length 0 lo)).take (HT.sIx (l.map f).length (l.map f).length hi - HT.sIx (l.map f).length 0 lo), ?_, ?_, ?_⟩
  · unfold cutD
    rw [List.map_take, List.map_drop]
  · rw [List.length_take, List.length_drop]; omega
  · intro x hx
    exact List.mem_of_mem_drop (List.mem_of_mem_take hx)
theorem cut_len (ds : List PyData) (lo hi : Option Int) : (cutD ds lo hi).length ≤ ds.length := by
  unfold cutD
  rw [List.length_take, List.length_drop]
  omega
def isI : PyData → Bool
  | .int _ => true
  | _ => false
theorem isI_inv {d : PyData} (h : isI d = true) : ∃ z, d = .int z := by
  cases d <;> first | exact ⟨_, rfl⟩ | cases h
theorem h_slLf {α : Type} {f : α → PyData} {l : List α} {lo hi : Option Int} (h : Hs K B Z H L M) (m : DLv K Z H v (l.map f)) (k : ∀ (l' : List α) q H', l'.length ≤ l.length → (∀ x ∈ l', x ∈ l) → Hs K B Z H' (.dl K q (l'.map f) true :: L) M → Q (.ref q) H') : rSlL K v lo hi H Q :=
  h_slL h m fun q H' h' => by
    obtain ⟨l', e, h1, h2⟩ := cutD_map f l lo hi
    rw [e] at h'
    exact k l' q H' h1 h2 h'
theorem h_ixLia {i : Int} (h : Hs K B Z H L M) (l : DLv K Z H v ds) (h0 : 0 ≤ i) (h1 : i < ds.length) (ha : ds.all isI = true) (k : ∀ z : Int, Q (.int z) H) : rIxL K v (.int i) H Q :=
  h_ixLm h l h0 h1 fun d hd x q _ => by
    obtain ⟨z, rfl⟩ := isI_inv (List.all_eq_true.mp ha d hd)
    rw [q.int_inv]
    exact k z
theorem h_ixLf {α : Type} {f : α → PyData} {l : List α} {i : Int} (h : Hs K B Z H L M) (m : DLv K Z H v (l.map f)) (h0 : 0 ≤ i) (h1 : i < l.length) (k : ∀ c ∈ l, ∀ x, Dt K Z H x (f c) → Hs K B Z H L (([x], [f c]) :: M) → Q x H) : rIxL K v (.int i) H Q :=
  h_ixLm h m h0 (by rw [List.length_map]; exact h1) fun d hd x q hs => by
    obtain ⟨c, hc, rfl⟩ := List.mem_map.mp hd
    exact k c hc x q hs
theorem h_minT {n : Int} {ns : List Int} (m : Dt K Z H v (.tuple ((n :: ns).map PyData.int))) (k : Q (.int (ns.foldl min n)) H) : rMinT K [v] H Q := by
  obtain ⟨a, ys, rfl, t, q⟩ := m.tup_inv
  have e : ys = (n :: ns).map V.int := Dts.ints_inv _ q
  subst e
  exact ⟨a, n, ns, rfl, t.sq, k⟩
theorem kB_tt : kitB "tuple" "tuple" = some true := by decide +kernel
theorem kB_tl : kitB "tuple" "list" = some false := by decide +kernel
theorem kB_tb : kitB "tuple" "bool" = some false := by decide +kernel
theorem kB_ts : kitB "tuple" "str" = some false := by decide +kernel
theorem kB_ti : kitB "tuple" "int" = some false := by decide +kernel
theorem kB_lt : kitB "list" "tuple" = some false := by decide +kernel
theorem kB_ll : kitB "list" "list" = some true := by decide +kernel
theorem kB_lb : kitB "list" "bool" = some false := by decide +kernel
theorem kB_ls : kitB "list" "str" = some false := by decide +kernel
theorem kB_li : kitB "list" "int" = some false := by decide +kernel
theorem h_ixA {i : Int} (h : Hs K B Z H L M) (m : Dt K Z H v (.tuple ds) ∨ Dt K Z H v (.list ds)) (e : atI ds i = some d) (k : ∀ x, Dt K Z H x d → Hs K B Z H L (([x], [d]) :: M) → Q x H) : rIxA K v (.int i) H Q := by
  rcases m with m | m
  · exact .inr (h_ixT h m e k)
  · exact .inl (h_ixL h m.dlv e k)
theorem h_min4 {n1 n2 n3 n4 : Int} (m : Dt K Z H v (.tuple [.int n1, .int n2, .int n3, .int n4])) (k : ∀ x : Int, x ≤ n1 → x ≤ n2 → x ≤ n3 → x ≤ n4 → (x = n1 ∨ x = n2 ∨ x = n3 ∨ x = n4) → Q (.int x) H) : rMinT K [v] H Q :=
  h_minT (n := n1) (ns := [n2, n3, n4]) m (by
    simp only [List.foldl]
    exact k _ (by omega) (by omega) (by omega) (by omega) (by omega))
/-! ## isinstance of data -/
theorem ty_tup (m : Dt K Z H v (.tuple ds)) : TyX K H v (.type "tuple") := by
  obtain ⟨a, ys, rfl, t, q⟩ := m.tup_inv
  exact .base (.tup t)
theorem ty_lst (m : DLv K Z H v ds) : TyX K H v (.type "list") := by
  obtain ⟨a, rfl, xs, t, q⟩ := m
  exact .base (.lst t)
end
end U
set_option Elab.async false
set_option linter.all false
set_option autoImplicit false
set_option maxRecDepth 100000
set_option maxHeartbeats 4000000
namespace U
open PySem PySem.Spec PyProof.Rows L2
/-! # dicts with tuple keys and data -/
abbrev kD : Key → PyData
  | .inl i => .int i
  | .inr s => .str s
section
variable {κ : Type} [DecidableEq κ]
def valD (kvs : List (κ × PyData)) (k : κ) : Option PyData := (kvs.find? fun kv => decide (kv.1 = k)).map (·.2)
def putD (kvs : List (κ × PyData)) (k : κ) (v : PyData) : List (κ × PyData) :=
  if (kvs.any fun kv => decide (kv.1 = k)) = true then kvs.map (fun kv => if kv.1 = k then (kv.1, v) else kv) else kvs ++ [(k, v)]
end
/-- values and data, key by key -/
inductive DR (K : PySem.W.Frag) (Z : List Addr) (H : Hp) {κ : Type} : List (κ × V) → List (κ × PyData) → Prop
  | nil : DR K Z H [] []
  | cons {k : κ} {v : V} {d : PyData} {r : List (κ × V)} {s : List (κ × PyData)} : Dt K Z H v d → DR K Z H r s → DR K Z H ((k, v) :: r) ((k, d) :: s)
section
variable {K : PySem.W.Frag} {Z Z' : List Addr} {H H' : Hp} {κ : Type} [DecidableEq κ] {r : List (κ × V)} {s : List (κ × PyData)} {k : κ} {v : V} {d : PyData}
theorem DR.im (i : Im Z H H') (h : DR K Z H r s) : DR K Z H' r s := by
  induction h with
  | nil => exact .nil
  | cons a _ ih => exact .cons (Dt.im i _ _ a) ih
theorem DR.zs (i : Z ⊆ Z') (h : DR K Z H r s) : DR K Z' H r s := by
  induction h with
  | nil => exact .nil
  | cons a _ ih => exact .cons (Dt.zs i _ _ a) ih
theorem DR.length (h : DR K Z H r s) : r.length = s.length := by
  induction h with
  | nil => rfl
  | cons _ _ ih => simp [ih]
theorem DR.val (h : DR K Z H r s) (k : κ) : (valV r k = none ∧ valD s k = none) ∨ ∃ v d, valV r k = some v ∧ valD s k = some d ∧ Dt K Z H v d := by
  induction h with
  | nil => exact .inl ⟨rfl, rfl⟩
  | @cons k' v d r s a _ ih =>
    by_cases e : k' = k
    · refine .inr ⟨v, d, valV_pos e, ?_, a⟩
      simp [valD, List.find?_cons, e]
    · have e1 : valV ((k', v) :: r) k = valV r k := valV_neg e
      have e2 : valD ((k', d) :: s) k = valD s k := by simp [valD, List.find?_cons, e]
      rw [e1, e2]
      exact ih
theorem DR.any (h : DR K Z H r s) (k : κ) : (r.any fun kv => decide (kv.1 = k)) = (s.any fun kv => decide (kv.1 = k)) := by
  induction h with
  | nil => rfl
  | cons _ _ ih => simp [ih]
theorem DR.repl (h : DR K Z H r s) (q : Dt K Z H v d) (k : κ) : DR K Z H (r.map fun kv => if kv.1 = k then (kv.1, v) else kv) (s.map fun kv => if kv.1 = k then (kv.1, d) else kv) := by
  induction h with
  | nil => exact .nil
  | @cons k' _ _ _ _ a _ ih =>
    simp only [List.map_cons]
    by_cases e : k' = k
    · rw [if_pos e, if_pos e]; exact .cons q ih
    · rw [if_neg e, if_neg e]; exact .cons a ih
theorem DR.snoc (h : DR K Z H r s) (q : Dt K Z H v d) (k : κ) : DR K Z H (r ++ [(k, v)]) (s ++ [(k, d)]) := by
  induction h with
  | nil => exact .cons q .nil
  | cons a _ ih => exact .cons a ih
theorem DR.put (h : DR K Z H r s) (q : Dt K Z H v d) (k : κ) : DR K Z H (putK r k v) (putD s k d) := by
  unfold putK putD
  rw [h.any k]
  split
  · exact h.repl q k
  · exact h.snoc q k
theorem DR.at' (h : DR K Z H r s) {i : Nat} {kv : κ × V} (e : r[i]? = some kv) : ∃ d, s[i]? = some (kv.1, d) ∧ Dt K Z H kv.2 d := by
  induction h generalizing i with
  | nil => cases e
  | cons a _ ih =>
    cases i with
    | zero => cases e; exact ⟨_, rfl, a⟩
    | succ i => exact ih e
end
def DDt (K : PySem.W.Frag) (Z : List Addr) (H : Hp) (o : Addr) (s : List (List Key × PyData)) : Prop := ∃ r, H o = some (.dT r) ∧ DR K Z H r s
def Ent.dd (K : PySem.W.Frag) (o : Addr) (s : List (List Key × PyData)) (w : Bool) : Ent := ⟨3, [o], w, fun Z H => DDt K Z H o s, fun Z H H' ⟨r, h, d⟩ e i => ⟨r, by rw [e o (by simp)]; exact h, d.im i⟩, fun Z Z' H s ⟨r, h, d⟩ => ⟨r, h, d.zs s⟩, fun Z H ⟨r, h, d⟩ b hb => by rw [one_mem hb]; exact ⟨_, h⟩⟩
def DgA (x : V) (H : Hp) (R : Addr → Prop) : Prop := ∃ a, x = .ref a ∧ IsD H a ∧ R a
def DgB (a : Addr) (y z : V) (H : Hp) (Q : VK) : Prop := ∃ o, DGet H a y o ∧ Q (o.getD z) H
def DpA (x y v : V) (H : Hp) (R : Hp → Prop) : Prop := ∃ a H4, x = .ref a ∧ DPut H a y v H4 ∧ R H4
section
variable {K : PySem.W.Frag} {B : Bs} {H H' : Hp} {Z Z' : List Addr} {L : List Ent} {M : List (List V × List PyData)} {F : Ent → List Ent} {o : Addr} {Q : VK} {v x y z : V} {d dz : PyData} {ks : List Key} {s : List (List Key × PyData)} {w : Bool} {σ : L2.St}
theorem u_dget2 {td ty tx : TE} (h : td σ H fun x H1 => DgA x H1 fun a => ty σ H1 fun y H2 => tx σ H2 fun z H3 => DgB a y z H3 Q) : tDGet2 td ty tx σ H Q := h
theorem u_dput {td ty tv : TE} {D : Ends} (h : tv σ H fun v H1 => td σ H1 fun x H2 => ty σ H2 fun y H3 => DpA x y v H3 (D.nx σ)) : sDPut td ty tv D σ H := h
theorem u_dnewT (h : ∀ p H', H p = none → Kp [] H H' → H' p = some (.dT []) → Q (.ref p) H') : tDNewT σ H Q := fun p hp => h p _ hp (Kp.new hp) upd_same
theorem keyTup (m : Dt K Z H y (.tuple (ks.map kD))) : ∃ b, y = .ref b ∧ H b = some (.tup (ks.map kV)) := by
  obtain ⟨b, xs, rfl, t, q⟩ := m.tup_inv
  refine ⟨b, rfl, ?_⟩
  have e : xs = ks.map kV := by
    clear t m
    induction ks generalizing xs with
    | nil => cases q; rfl
    | cons k r ih =>
      cases q with
      | cons h1 h2 =>
        rw [ih _ h2]
        cases k with
        | inl i => rw [Dt.int_inv h1]; rfl
        | inr z => rw [Dt.str_inv h1]; rfl
  rw [← e]
  exact t
theorem h_dnewT (h : Hs K B Z H L M) (k : ∀ p H', Hs K B Z H' (.dd K p [] true :: L) M → Q (.ref p) H') : tDNewT σ H Q :=
  u_dnewT fun p H' hn hk ho => k p H' (h.new hk (.dd K p [] true) (fun a ha => by rw [one_mem ha]; exact hn) ⟨[], ho, .nil⟩)
theorem h_dgA {R : Addr → Prop} (h : Hs K B Z H L M) (l : Loc L (.dd K o s w) F) (k : R o) : DgA (.ref o) H R := by
  obtain ⟨r, e, _⟩ := (h.get l : DDt K Z H o s)
  exact ⟨o, rfl, .inr ⟨r, .inl e⟩, k⟩
theorem h_dgB (ks : List Key) (h : Hs K B Z H L M) (l : Loc L (.dd K o s w) F) (m : Dt K Z H y (.tuple (ks.map kD))) (mz : Dt K Z H z dz) (k : ∀ x, Hs K B Z H L (([x], [(valD s ks).getD dz]) :: M) → Q x H) : DgB o y z H Q := by
  obtain ⟨r, e, dr⟩ := (h.get l : DDt K Z H o s)
  obtain ⟨b, rfl, hb⟩ := keyTup m
  refine ⟨valV r ks, .t e hb, k _ (h.fact1 ?_)⟩
  rcases dr.val ks with ⟨e1, e2⟩ | ⟨v, d, e1, e2, q⟩
  · rw [e1, e2]; exact mz
  · rw [e1, e2]; exact q
theorem h_dpA {R : Hp → Prop} (ks : List Key) (h : Hs K B Z H L M) (l : Loc L (.dd K o s true) F) (m : Dt K Z H y (.tuple (ks.map kD))) (q : Dt K Z H v d) (hl : s.length < 100000) (k : ∀ H', Hs K B Z H' (F (.dd K o (putD s ks d) true)) M → R H') : DpA (.ref o) y v H R := by
  obtain ⟨r, e, dr⟩ := (h.get l : DDt K Z H o s)
  obtain ⟨b, rfl, hb⟩ := keyTup m
  have im : Im Z H (upd H o (.dT (putK r ks v))) := Kp.mut.imN (fun a ha zs => by rw [one_mem ha, e]; intro z; cases z) fun a ha => by rw [one_mem ha]; exact h.zd _ l.mem o (by simp [Ent.dd])
  refine ⟨o, _, rfl, .t e hb (Nat.lt_of_lt_of_le (by rw [dr.length]; exact hl) (by decide)), k _ (h.put (e' := .dd K o (putD s ks d) true) l rfl Kp.mut (fun a ha => ha) (fun a ha => ha) (fun a ha zs => by rw [one_mem ha, e]; intro z; cases z) ?_ fun a ha => .inl ha)⟩
  exact ⟨_, upd_same, (dr.put q ks).im im⟩
theorem h_sf {p C dx : Addr} {fs : List (Str × V)} {f : Str} {y : V} {R : Hp → Prop} (hc : Cls K C) (hn : NoAttr K C f) (h : Hs K B Z H L M) (l : Loc L (.obj p (.ins C dx fs) true) F) (hl : fs.length < 1000) (k : ∀ H', Hs K B Z H' (F (.obj p (.ins C dx (putF f y fs)) true)) M → R H') : SFq K f (.ref p) y H R :=
  sf_of hc hn (h.obj l) hl fun H' hk ho => k H' (h.put (e' := .obj p (.ins C dx (putF f y fs)) true) l rfl hk (fun a ha => ha) (fun a ha => ha) (fun a ha zs => by rw [one_mem ha, h.obj l]; intro z; cases z) ho fun a ha => .inl ha)
theorem h_fld {p C dx : Addr} {fs : List (Str × V)} {f : Str} (hc : Cls K C) (hn : NoAttr K C f) (h : Hs K B Z H L M) (l : Loc L (.obj p (.ins C dx fs) w) F) (hl : fs.lookup f = some v) (q : Q v H) : FldOf K f (.ref p) H Q := fld_of hc hn (h.obj l) hl q
end
/-! properties -/
def NcPr (P : Program) (w : World) (K : PySem.W.Frag) (mg : Str → Option Value) (base : Heap) (k : Nat) (C : Addr) (f : Str) (sp : Sp) : Prop :=
  ∃ p g fd, PropOf K C f p g ∧ FnOk P w K mg base CX0 k g fd ["self"] sp ∧ Binds K fd ["self"] []
theorem pe_pr {X : Cx} {k : Nat} {C : Addr} {f : Str} {sp : Sp} {E : XK} {e : Expr} {pos : Pos} {ta : TE} (F : NcPr X.prog X.w X.K X.mg X.base k C f sp) (c : Cls X.K C) (hx : Passes CX0 X.nox E) (hr : Room (k + 1) X.A) (he : PE X e ta)
    (hab : attributeBase e f X.env (eval e X.env) = eval e X.env := by rfl) : PE X (.Attribute e f pos) (tProp C sp [] E ta) := by
  obtain ⟨p, g, fd, hp, F, b⟩ := F
  exact pe_prop he c hp F hr b .nil hx hab
def PrQ (C : Addr) (sp : Sp) (E : XK) (x : V) (H : Hp) (Q : VK) : Prop := ∃ a dx fs, x = .ref a ∧ H a = some (.ins C dx fs) ∧ sp [.ref a] H Q E
theorem u_prop {C : Addr} {sp : Sp} {E : XK} {ta : TE} {σ : L2.St} {H : Hp} {Q : VK} (h : ta σ H fun x H1 => PrQ C sp E x H1 Q) : tProp C sp [] E ta σ H Q := h
end U
set_option Elab.async false
set_option linter.all false
set_option autoImplicit false
set_option maxRecDepth 100000
set_option maxHeartbeats 4000000
namespace My
open PySem PySem.Spec PyProof.Rows L2 U
local macro_rules | `(tactic| tm_at "step") => `(tactic| first | (with_reducible refine br_b ?_ ?_ <;> intro hb_) | fail)

/-! my own steps: rows of tactics, tried from above -/
local macro_rules | `(tactic| tm_at "lk") => `(tactic| first | with_reducible assumption | (with_reducible refine' Kp.get0 ?k1 ?k2; (case k1 => with_reducible assumption); (case k2 => tm_at "lk")) | (with_reducible refine' Kp.get1 ?k1 ?k3 ?k2; (case k1 => with_reducible assumption); (case k3 => tm_at "ne"); (case k2 => tm_at "lk")) | fail)
local macro_rules | `(tactic| tm_at "lp") => `(tactic| first | with_reducible assumption | (with_reducible refine' Pool.kp0 ?k1 ?k2; (case k1 => with_reducible assumption); (case k2 => tm_at "lp")) | (with_reducible refine' Pool.kp1 ?k1 ?k3 ?k2; (case k1 => with_reducible assumption); (case k3 => tm_at "ne"); (case k2 => tm_at "lp")) | fail)
local macro_rules | `(tactic| tm_at "ls") => `(tactic| first | with_reducible assumption | (with_reducible refine' Scr.kp0 ?k1 ?k2; (case k1 => with_reducible assumption); (case k2 => tm_at "ls")) | (with_reducible refine' Scr.kp1 ?k1 ?k3 ?k4 ?k2; (case k1 => with_reducible assumption); (case k3 => with_reducible assumption); (case k4 => tm_at "ls"); (case k2 => tm_at "ls")) | fail)
local macro_rules | `(tactic| tm_at "ne") => `(tactic| first | with_reducible assumption | (with_reducible refine' Ne.symm ?k1; with_reducible assumption) | (with_reducible refine' ne_new ?k1 ?k2; (case k1 => with_reducible assumption); (case k2 => tm_at "lk")) | (with_reducible refine' ne_new' ?k1 ?k2; (case k1 => with_reducible assumption); (case k2 => tm_at "lk")) | (with_reducible refine' Pool.ne ?k1 ?k2; (case k1 => with_reducible assumption); (case k2 => tm_at "lp")) | (with_reducible refine' Ne.symm (Pool.ne ?k1 ?k2); (case k1 => with_reducible assumption); (case k2 => tm_at "lp")) | fail)
local macro_rules | `(tactic| tm_at "kc") => `(tactic| first | with_reducible assumption | with_reducible exact Kp.refl | (with_reducible refine' Kp.trans ?k1 (Kp.of0 ?k2); (case k2 => with_reducible assumption); (case k1 => tm_at "kc")) | (with_reducible refine' Kp.trans ?k1 ?k2; (case k2 => with_reducible assumption); (case k1 => tm_at "kc")) | (with_reducible refine' Kp.low' ?k1 ?k2 ?k3 ?k4; (case k2 => with_reducible assumption); (case k3 => with_reducible assumption); (case k1 => tm_at "kc"); (case k4 => tm_at "kc")) | fail)
local macro_rules | `(tactic| tm_at "sq") => `(tactic| first | (with_reducible refine' sql ?k9; (case k9 => tm_at "lk")) | (with_reducible refine' Scr.sq ?k9; (case k9 => tm_at "ls")) | fail)
local macro_rules | `(tactic| tm_at "sqt") => `(tactic| first | (with_reducible refine' sqt ?k9; (case k9 => tm_at "lk")) | fail)
local macro_rules | `(tactic| tm_at "bt") => `(tactic| first | with_reducible assumption | (with_reducible refine' Bt.mul ?k1 ?k2; (case k1 => tm_at "bt"); (case k2 => tm_at "bt")) | (with_reducible refine' Bt.addM ?k1 ?k2; (case k1 => tm_at "bt"); (case k2 => tm_at "bt")) | (with_reducible refine' Bt.subM ?k1 ?k2; (case k1 => tm_at "bt"); (case k2 => tm_at "bt")) | (with_reducible refine' Bt.neg ?k1; (case k1 => tm_at "bt")) | fail)
local macro_rules | `(tactic| tm_at "bm") => `(tactic| first | with_reducible assumption | (with_reducible refine' Bt.mono ?k1 ?k2; (case k1 => with_reducible assumption); (case k2 => k_dflt decide)) | fail)
local macro_rules | `(tactic| tm_at "side") => `(tactic| first | with_reducible assumption | (with_reducible refine' Bt.cmul ?k1 ?k2 ?k3; (case k1 => tm_at "bt"); (case k2 => tm_at "bt"); (case k3 => k_dflt decide)) | (with_reducible refine cmul_of ?k1; (case k1 => omega)) | (with_reducible refine cpow_of ?k1; (case k1 => omega)) | (with_reducible refine cdivw_of ?k1; (case k1 => omega)) | (with_reducible refine cdivw_big ?k1; (case k1 => omega)) | (with_reducible refine cmulx_of ?k1; (case k1 => omega)) | omega | fail)
local macro_rules | `(tactic| tm_at "step") => `(tactic| first
  | with_reducible refine u_op ?_
  | (with_reducible refine' u_var ?k1 ?_; (case k1 => k_dflt rfl))
  | with_reducible refine u_c ?_
  | with_reducible refine u_I0 ?_
  | with_reducible refine u_seq ?_
  | with_reducible refine u_asg ?_
  | with_reducible refine g_name ?_
  | with_reducible refine u_cb ?_
  | with_reducible refine u_cons ?_
  | with_reducible refine u_nil ?_
  | (with_reducible refine' u_pow ?k1 ?k2 ?_; (case k1 => k_dflt (tm_at "side")); (case k2 => (conv => lhs; simp only [Int.reduceToNat, Int.reducePow]) <;> rfl))
  | (with_reducible refine' u_I ?k1 ?_; (case k1 => k_dflt (tm_at "side")))
  | with_reducible refine u_int1 ?_
  | with_reducible refine u_intB ?_
  | with_reducible refine u_if ?_
  | with_reducible refine u_test ?_
  | with_reducible refine u_tb ?_
  | with_reducible refine u_tB ?_
  | with_reducible refine u_eqI ?_
  | with_reducible refine u_neI ?_
  | with_reducible refine u_eqB ?_
  | with_reducible refine u_and ?_
  | with_reducible refine u_or ?_
  | with_reducible refine u_not ?_
  | with_reducible refine u_andV ?_
  | with_reducible refine u_orV ?_
  | with_reducible refine u_notV ?_
  | with_reducible refine br_t ?_
  | with_reducible refine br_f ?_
  | with_reducible refine br_nt ?_
  | with_reducible refine br_nf ?_
  | with_reducible refine br_n ?_
  | with_reducible refine u_ret ?_
  | with_reducible refine u_next ?_
  | with_reducible refine u_drop ?_
  | with_reducible refine u_un ?_
  | with_reducible refine u_U ?_
  | with_reducible refine u_call ?_
  | with_reducible refine u_fldN ?_
  | with_reducible refine g_sub ?_
  | with_reducible refine g_cons ?_
  | with_reducible refine g_nil ?_
  | with_reducible refine u_tpar ?_
  | (with_reducible refine u_absL ?_; intro m_ h1_ h2_)
  | (with_reducible refine u_maxL ?_; intro m_ h1_ h2_ h3_)
  | (with_reducible refine u_minL ?_; intro m_ h1_ h2_ h3_)
  | with_reducible refine u_gcd ?_
  | with_reducible refine u_isi_ii ?_
  | with_reducible refine u_isi_ib ?_
  | with_reducible refine u_isi_bb ?_
  | with_reducible refine u_tupN ?_
  | with_reducible refine u_lstN ?_
  | (with_reducible refine' u_ixL ?k1 ?k2 ?_; (case k1 => tm_at "sq"); (case k2 => first | with_reducible assumption | k_dflt rfl))
  | (with_reducible refine' u_ixT ?k1 ?k2 ?_; (case k1 => tm_at "sqt"); (case k2 => k_dflt rfl))
  | (with_reducible refine' g_tup ?k1 ?k2 ?_; (case k1 => tm_at "sqt"); (case k2 => k_dflt rfl))
  | (with_reducible refine' u_lenL ?k1 ?_; (case k1 => tm_at "sq"))
  | (with_reducible refine' u_lenT ?k1 ?_; (case k1 => tm_at "sqt"))
  | with_reducible refine u_for ?_
  | with_reducible refine u_iL ?_
  | with_reducible refine u_iT ?_
  | with_reducible refine u_r1 ?_
  | with_reducible refine u_r2 ?_
  | (with_reducible refine' u_iLq ?k1 ?_; (case k1 => tm_at "sq"))
  | (with_reducible refine' u_iTq ?k1 ?_; (case k1 => tm_at "sqt"))
  | (with_reducible refine' u_r1q ?k1 ?_; (case k1 => (constructor <;> omega)))
  | (with_reducible refine' u_r2q ?k1 ?_; (case k1 => (refine ⟨?_, ?_, ?_, ?_⟩ <;> omega)))
  | with_reducible refine u_lc ?_
  | with_reducible refine u_yes ?_
  | (with_reducible refine endQ ?k1 ?_; (case k1 => k_dflt rfl))
  | with_reducible refine u_meth ?_
  | with_reducible refine u_callS ?_
  | with_reducible refine u_bm ?_
  | (with_reducible refine' bm_list ?k1 ?_; (case k1 => tm_at "lk"))
  | (with_reducible refine' u_append ?k1 ?k2 ?_; (case k1 => tm_at "lk"); (case k2 => omega); intro H_ hk_ ho_)
  | (with_reducible refine' appE ?k1 ?k2 ?_; (case k1 => tm_at "lk"); (case k2 => omega); intro H_ hk_ ho_)
  | with_reducible refine u_sl ?_
  | with_reducible refine u_noPart ?_
  | with_reducible refine u_part ?_
  | with_reducible refine u_intq ?_
  | (with_reducible refine' u_slL ?k1 ?_; (case k1 => tm_at "sq"); intro p_ H_ hn_ hk_ ho_)
  | (with_reducible refine' n_tup ?k1 ?_; (case k1 => k_dflt (exact Nat.le_of_ble_eq_true rfl)); intro p_ H_ hn_ hk_ ho_)
  | (with_reducible refine' n_lst ?k1 ?_; (case k1 => k_dflt (exact Nat.le_of_ble_eq_true rfl)); intro p_ H_ hn_ hk_ ho_)
  | (with_reducible refine' s_list ?k1 ?k2 ?_; (case k1 => tm_at "lk"); (case k2 => k_dflt rfl); intro H_ hk_ ho_)
  | (with_reducible refine br_d ?_ ?_ <;> intro hc_) | fail)
local macro_rules | `(tactic| tm_at "run") => `(tactic| repeat' tm_at "step")
local macro_rules | `(tactic| tm_at "go") => `(tactic| ((try dsimp only [cxOf, Cx.nox, Cx.wish]); tm_at "run"))

/-! steps over Hs -/
local macro_rules | `(tactic| tm_at "mem") => `(tactic| first | with_reducible exact List.mem_cons_self | (with_reducible refine' List.mem_cons_of_mem _ ?k1; (case k1 => tm_at "mem")) | fail)
local macro_rules | `(tactic| tm_at "loc") => `(tactic| first | with_reducible exact Loc.here | (with_reducible refine' Loc.there ?k1; (case k1 => tm_at "loc")) | fail)
local macro_rules | `(tactic| tm_at "rem") => `(tactic| first | with_reducible exact Rem.here | (with_reducible refine' Rem.there ?k1; (case k1 => tm_at "rem")) | fail)
local macro_rules | `(tactic| tm_at "suf") => `(tactic| first | with_reducible exact Suf.refl | (with_reducible refine' Suf.keep ?k1; (case k1 => tm_at "suf")) | (with_reducible refine' Suf.cons ?k1; (case k1 => tm_at "suf")) | fail)
local macro_rules | `(tactic| tm_at "wk") => `(tactic| first | with_reducible assumption | (with_reducible refine' Hs.wk ?k1 ?k2 ?k3; (case k1 => with_reducible assumption); (case k2 => tm_at "suf"); (case k3 => tm_at "suf")) | fail)
local macro_rules | `(tactic| tm_at "dt") => `(tactic| first | with_reducible exact Dt.int _ | with_reducible exact Dt.str _ | with_reducible exact Dt.bl _ | with_reducible exact Dt.non | with_reducible assumption | (with_reducible refine' Hs.dt ?k1 ?k2; (case k1 => with_reducible assumption); (case k2 => tm_at "mem")) | (with_reducible refine' Hs.dtup ?k1 ?k2 ?k3; (case k1 => with_reducible assumption); (case k2 => tm_at "loc"); (case k3 => tm_at "dts")) | fail)
local macro_rules | `(tactic| tm_at "dts") => `(tactic| first | with_reducible exact Dts.nil | (with_reducible refine' Dts.cons ?k1 ?k2; (case k1 => tm_at "dt"); (case k2 => tm_at "dts")) | with_reducible assumption | (with_reducible refine' Hs.dts ?k1 ?k2; (case k1 => with_reducible assumption); (case k2 => tm_at "mem")) | fail)
local macro_rules | `(tactic| tm_at "da") => `(tactic| first | (with_reducible refine' Da.imm ?k1; (case k1 => tm_at "dt")) | (with_reducible refine' Hs.dlst ?k1 ?k2; (case k1 => with_reducible assumption); (case k2 => tm_at "loc")) | fail)
local macro_rules | `(tactic| tm_at "lr") => `(tactic| first | with_reducible assumption | (with_reducible refine' Hs.dlv ?k1 ?k2; (case k1 => with_reducible assumption); (case k2 => tm_at "loc")) | (with_reducible refine' Dt.dlv ?k1; (case k1 => tm_at "dt")) | fail)
local macro_rules | `(tactic| tm_at "zs") => `(tactic| first | with_reducible assumption | with_reducible exact List.Subset.refl _ | (with_reducible refine' List.Subset.trans ?k1 ?k2; (case k2 => with_reducible assumption); (case k1 => tm_at "zs")) | (with_reducible refine' List.Subset.trans ?k1 (List.subset_cons_self _ _); (case k1 => tm_at "zs")) | fail)
local macro_rules | `(tactic| tm_at "at") => `(tactic| first | with_reducible assumption | k_dflt rfl | fail)
local macro_rules | `(tactic| tm_at "dep") => `(tactic| first | with_reducible assumption | (with_reducible refine' Nat.le_trans (Nat.min_le_left _ _) ?k1; (case k1 => first | with_reducible assumption | exact Nat.le_of_ble_eq_true rfl)) | (with_reducible refine' Nat.le_trans (Nat.min_le_right _ _) ?k1; (case k1 => first | with_reducible assumption | exact Nat.le_of_ble_eq_true rfl)) | fail)
local macro_rules | `(tactic| tm_at "mono") => `(tactic| (intro φ ψ h s; repeat' (first | exact fun r1 r2 r3 r4 => h _ (s r1 r2 r3 r4) | exact fun r1 r2 r3 => h _ (s r1 r2 r3) | exact fun r1 r2 => h _ (s r1 r2) | exact fun r1 => h _ (s r1) | exact h _ s | (obtain ⟨x, s⟩ := s; refine ⟨x, ?_⟩))))
local macro_rules | `(tactic| tm_at "sz") => `(tactic| first | with_reducible assumption | omega | k_dflt (exact Nat.le_of_ble_eq_true rfl) | (simp only [List.length_map, List.length_append, List.length_cons, List.length_nil]; omega) | fail)
local macro_rules | `(tactic| tm_at "pre") => `(tactic| first | with_reducible assumption | trivial | omega | (refine ⟨?_, ?_⟩ <;> tm_at "pre") | fail)
local macro_rules | `(tactic| tm_at "step") => `(tactic| first
  | (with_reducible refine' h_ixTi ?k1 ?k2 ?_; (case k1 => tm_at "dt"); (case k2 => tm_at "at"))
  | (with_reducible refine' h_ixTs ?k1 ?k2 ?_; (case k1 => tm_at "dt"); (case k2 => tm_at "at"))
  | (with_reducible refine' h_ixTb ?k1 ?k2 ?_; (case k1 => tm_at "dt"); (case k2 => tm_at "at"))
  | (with_reducible refine' h_ixTn ?k1 ?k2 ?_; (case k1 => tm_at "dt"); (case k2 => tm_at "at"))
  | (with_reducible refine' h_ixT ?k0 ?k1 ?k2 ?_; (case k0 => with_reducible assumption); (case k1 => tm_at "dt"); (case k2 => tm_at "at"); intro x_ hd_ hs_)
  | (with_reducible refine' h_ixLi ?k0 ?k1 ?k2 ?_; (case k0 => with_reducible assumption); (case k1 => tm_at "lr"); (case k2 => tm_at "at"))
  | (with_reducible refine' h_ixLs ?k0 ?k1 ?k2 ?_; (case k0 => with_reducible assumption); (case k1 => tm_at "lr"); (case k2 => tm_at "at"))
  | (with_reducible refine' h_ixLb ?k0 ?k1 ?k2 ?_; (case k0 => with_reducible assumption); (case k1 => tm_at "lr"); (case k2 => tm_at "at"))
  | (with_reducible refine' h_ixL ?k0 ?k1 ?k2 ?_; (case k0 => with_reducible assumption); (case k1 => tm_at "lr"); (case k2 => tm_at "at"); intro x_ hd_ hs_)
  | (with_reducible refine' h_gtup ?k1 ?k2 ?_; (case k1 => tm_at "dt"); (case k2 => k_dflt rfl); intro xs_ hq_)
  | (with_reducible refine' h_gci ?k1 ?_; (case k1 => with_reducible assumption); intro xs_ hq_)
  | (with_reducible refine' h_gcs ?k1 ?_; (case k1 => with_reducible assumption); intro xs_ hq_)
  | (with_reducible refine' h_gcb ?k1 ?_; (case k1 => with_reducible assumption); intro xs_ hq_)
  | (with_reducible refine' h_gcn ?k1 ?_; (case k1 => with_reducible assumption); intro xs_ hq_)
  | (with_reducible refine' h_gc ?k0 ?k1 ?_; (case k0 => with_reducible assumption); (case k1 => with_reducible assumption); intro x_ xs_ hq_ hs_)
  | (with_reducible refine' h_gn ?k1 ?_; (case k1 => with_reducible assumption))
  | (with_reducible refine' h_lenL ?k1 ?_; (case k1 => tm_at "lr"))
  | (with_reducible refine' h_lenT ?k1 ?_; (case k1 => tm_at "dt"))
  | (with_reducible refine' h_tup ?k0 ?k1 ?k2 ?_; (case k0 => with_reducible assumption); (case k1 => k_dflt (exact Nat.le_of_ble_eq_true rfl)); (case k2 => tm_at "dts"); intro p_ H_ hs_)
  | (with_reducible refine' h_lst ?k0 ?k1 ?k2 ?_; (case k0 => with_reducible assumption); (case k1 => k_dflt (exact Nat.le_of_ble_eq_true rfl)); (case k2 => tm_at "dts"); intro p_ H_ hs_)
  | (with_reducible refine' h_tupO ?k0 ?k1 ?_; (case k0 => with_reducible assumption); (case k1 => k_dflt (exact Nat.le_of_ble_eq_true rfl)); intro p_ H_ hs_)
  | (with_reducible refine' h_lstO ?k0 ?k1 ?_; (case k0 => with_reducible assumption); (case k1 => k_dflt (exact Nat.le_of_ble_eq_true rfl)); intro p_ H_ hs_)
  | fail)
local macro_rules | `(tactic| tm_at "step") => `(tactic| first
  | (with_reducible refine' h_bmL ?k0 ?k1 ?_; (case k0 => with_reducible assumption); (case k1 => tm_at "loc"))
  | (with_reducible refine' h_app ?k0 ?k1 ?k2 ?k3 ?_; (case k0 => with_reducible assumption); (case k1 => tm_at "loc"); (case k2 => tm_at "dt"); (case k3 => tm_at "sz"); intro H_ hs_)
  | (with_reducible refine' h_setL ?k0 ?k1 ?k2 ?k3 ?_; (case k0 => with_reducible assumption); (case k1 => tm_at "loc"); (case k2 => tm_at "dt"); (case k3 => tm_at "at"); intro H_ hs_)
  | (with_reducible refine' h_slL ?k0 ?k1 ?_; (case k0 => with_reducible assumption); (case k1 => tm_at "lr"); intro p_ H_ hs_)
  | (with_reducible refine' h_sl3 ?k0 ?k1 ?_; (case k0 => with_reducible assumption); (case k1 => tm_at "dt"); intro p_ H_ hs_)
  | (with_reducible refine' h_slf1 ?k0 ?k1 ?_; (case k0 => with_reducible assumption); (case k1 => tm_at "dt"); intro p_ H_ hs_)
  | (with_reducible refine' h_slT ?k0 ?k1 ?_; (case k0 => with_reducible assumption); (case k1 => tm_at "dt"); intro p_ H_ hs_)
  | (with_reducible refine' h_catLe ?k0 ?k1 ?k2 ?k3 ?k4 ?_; (case k0 => with_reducible assumption); (case k1 => tm_at "lr"); (case k2 => tm_at "lr"); (case k3 => tm_at "sz"); (case k4 => ((try simp only [List.cons_append, List.nil_append]); k_dflt rfl)); intro p_ H_ hs_)
  | (with_reducible refine' h_catTe ?k0 ?k1 ?k2 ?k3 ?k4 ?_; (case k0 => with_reducible assumption); (case k1 => tm_at "dt"); (case k2 => tm_at "dt"); (case k3 => tm_at "sz"); (case k4 => ((try simp only [List.cons_append, List.nil_append]); k_dflt rfl)); intro p_ H_ hs_)
  | (with_reducible refine' h_extL ?k0 ?k1 ?k2 ?k3 ?_; (case k0 => with_reducible assumption); (case k1 => tm_at "loc"); (case k2 => tm_at "lr"); (case k3 => tm_at "sz"); intro H_ hs_)
  | (with_reducible refine' h_tupOfL ?k0 ?k1 ?_; (case k0 => with_reducible assumption); (case k1 => tm_at "lr"); intro p_ H_ hs_)
  | (with_reducible refine' h_tupOfT ?k1 ?_; (case k1 => tm_at "dt"))
  | (with_reducible refine' h_listOfL ?k0 ?k1 ?_; (case k0 => with_reducible assumption); (case k1 => tm_at "lr"); intro p_ H_ hs_)
  | (with_reducible refine' h_listOfT ?k0 ?k1 ?_; (case k0 => with_reducible assumption); (case k1 => tm_at "dt"); intro p_ H_ hs_)
  | (with_reducible refine' h_eq ?k1 ?k2 ?k3 ?_; (case k1 => tm_at "da"); (case k2 => tm_at "da"); (case k3 => tm_at "dep"))
  | (with_reducible refine' h_ne ?k1 ?k2 ?k3 ?_; (case k1 => tm_at "da"); (case k2 => tm_at "da"); (case k3 => tm_at "dep"))
  | (with_reducible refine' h_inL ?k1 ?k2 ?k3 ?_; (case k1 => tm_at "dt"); (case k2 => tm_at "da"); (case k3 => tm_at "dep"))
  | (with_reducible refine' h_niL ?k1 ?k2 ?k3 ?_; (case k1 => tm_at "dt"); (case k2 => tm_at "da"); (case k3 => tm_at "dep"))
  | (with_reducible refine' h_inT ?k1 ?k2 ?k3 ?_; (case k1 => tm_at "dt"); (case k2 => tm_at "dt"); (case k3 => tm_at "dep"))
  | (with_reducible refine' h_niT ?k1 ?k2 ?k3 ?_; (case k1 => tm_at "dt"); (case k2 => tm_at "dt"); (case k3 => tm_at "dep"))
  | with_reducible refine u_chain ?_
  | (with_reducible refine' h_min4 ?k1 ?_; (case k1 => tm_at "dt"); intro m_ h1_ h2_ h3_ h4_ h5_)
  | (with_reducible refine' h_iL ?k1 ?_; (case k1 => tm_at "lr"))
  | (with_reducible refine' h_iT ?k1 ?_; (case k1 => tm_at "dt"))
  | (with_reducible refine' lcE ?k1 ?k2 ?k3 ?k4 ?k5 ?_; (case k1 => tm_at "wk"); (case k2 => tm_at "zs"); (case k3 => omega); (case k4 => omega); (case k5 => tm_at "dt"))
  | (with_reducible refine' lcS ?k1 ?k2 ?k3 ?_; (case k1 => tm_at "wk"); (case k2 => tm_at "zs"); (case k3 => omega))
  | with_reducible refine u_iA ?_
  | (with_reducible refine' f_repG ?k1 ?k2 ?k3 ?_; (case k1 => omega); (case k2 => omega); (case k3 => omega); intro z_ hz_)
  | (with_reducible refine' k_vA ?k0 ?k1 ?k2 ?_; (case k0 => with_reducible assumption); (case k1 => tm_at "dts"); (case k2 => tm_at "mono"))
  | (with_reducible refine' k_wA ?k0 ?k1 ?k2 ?k3 ?_; (case k0 => with_reducible assumption); (case k1 => tm_at "loc"); (case k2 => tm_at "dts"); (case k3 => tm_at "mono"))
  | (with_reducible refine' k_vlA ?k0 ?k1 ?k2 ?_; (case k0 => with_reducible assumption); (case k1 => tm_at "dts"); (case k2 => tm_at "mono"))
  | (with_reducible refine' k_wlA ?k0 ?k1 ?k2 ?k3 ?_; (case k0 => with_reducible assumption); (case k1 => tm_at "loc"); (case k2 => tm_at "dts"); (case k3 => tm_at "mono"))
  | (with_reducible refine ret_int ?_; intro H_ hs_)
  | (with_reducible refine ret_str ?_; intro H_ hs_)
  | (with_reducible refine ret_bl ?_; intro H_ hs_)
  | (with_reducible refine ret_non ?_; intro H_ hs_)
  | (with_reducible refine ret_any ?_; intro v_ Z_ H_ hz_ hs_)
  | (with_reducible refine retL ?_; intro p_ Z_ H_ hz_ hs_)
  | fail)
local macro_rules | `(tactic| tm_at "step") => `(tactic| first
  | with_reducible refine u_isNi ?_
  | with_reducible refine u_isNb ?_
  | with_reducible refine u_isNs ?_
  | with_reducible refine u_isi (.base (.str _)) kB_sb ?_
  | with_reducible refine u_isi (.base (.str _)) kB_ss ?_
  | with_reducible refine u_isi (.base (.str _)) kB_si ?_
  | with_reducible refine u_isi (.base (.bl _)) kB_bs ?_
  | with_reducible refine u_isi (.base (.bl _)) kB_bi ?_
  | with_reducible refine u_isi (.base (.int _)) kB_is ?_
  | (with_reducible refine' u_isi (ty_tup ?k1) kB_tt ?_; (case k1 => tm_at "dt"))
  | (with_reducible refine' u_isi (ty_tup ?k1) kB_tl ?_; (case k1 => tm_at "dt"))
  | (with_reducible refine' u_isi (ty_tup ?k1) kB_tb ?_; (case k1 => tm_at "dt"))
  | (with_reducible refine' u_isi (ty_tup ?k1) kB_ts ?_; (case k1 => tm_at "dt"))
  | (with_reducible refine' u_isi (ty_tup ?k1) kB_ti ?_; (case k1 => tm_at "dt"))
  | (with_reducible refine' u_isi (ty_lst ?k1) kB_lt ?_; (case k1 => tm_at "lr"))
  | (with_reducible refine' u_isi (ty_lst ?k1) kB_ll ?_; (case k1 => tm_at "lr"))
  | (with_reducible refine' u_isi (ty_lst ?k1) kB_lb ?_; (case k1 => tm_at "lr"))
  | (with_reducible refine' u_isi (ty_lst ?k1) kB_ls ?_; (case k1 => tm_at "lr"))
  | (with_reducible refine' u_isi (ty_lst ?k1) kB_li ?_; (case k1 => tm_at "lr"))
  | fail)
local macro_rules | `(tactic| tm_at "anyi") => `(tactic| (intro d hd; simp only [List.mem_cons, List.not_mem_nil, or_false] at hd; repeat' (rcases hd with rfl | hd); all_goals (first | exact ⟨_, rfl⟩ | (subst hd; exact ⟨_, rfl⟩))))
local macro_rules | `(tactic| tm_at "len") => `(tactic| (simp only [List.length_cons, List.length_nil, List.length_map, List.length_append]; omega))
local macro_rules | `(tactic| tm_at "step") => `(tactic| first
  | with_reducible refine u_dget2 ?_
  | with_reducible refine u_dput ?_
  | (with_reducible refine' h_dnewT ?k0 ?_; (case k0 => with_reducible assumption); intro p_ H_ hs_)
  | (with_reducible refine' h_dgA ?k0 ?k1 ?_; (case k0 => with_reducible assumption); (case k1 => tm_at "loc"))
  | fail)
local macro_rules | `(tactic| tm_at "finv") => `(tactic| (with_reducible refine' fin_v ?k1 ?k2 ?_; (case k1 => with_reducible assumption); (case k2 => tm_at "dt")))
local macro_rules | `(tactic| tm_at "finw") => `(tactic| (with_reducible refine' fin_w ?k1 ?k2 ?k3 ?_; (case k1 => with_reducible assumption); (case k2 => tm_at "loc"); (case k3 => tm_at "dt")))
local macro_rules | `(tactic| tm_at "finvl") => `(tactic| (with_reducible refine' fin_vl ?k1 ?k2 ?_; (case k1 => with_reducible assumption); (case k2 => tm_at "loc")))

/-! what the text's top has written of PlainBook -/
structure PbC (K : PySem.W.Frag) (mg : Str → Option Value) (C : Addr) : Prop where
  g : mg "PlainBook" = some (.ref C)
  cl : Cls K C
  n1 : NoAttr K C "states"
  n2 : NoAttr K C "first"
  n3 : NoAttr K C "choices"
  n4 : NoAttr K C "_options"

def top (i : Nat) : Stmt := PySem.Challenge.pw_oddskept_k03_plain_books.main.body.getD i (.Pass ⟨0, 0, 0, 0⟩)
abbrev s_l_int : Stmt := top 24
theorem sc_l_int : FnScope ["x"] ["x"] (defScope s_l_int) := ⟨rfl, rfl, rfl, by decide +kernel, rfl, by decide +kernel, by decide +kernel⟩
abbrev s_l_pool : Stmt := top 25
theorem sc_l_pool : FnScope ["script", "at", "cell", "kind"] ["script", "at"] (defScope s_l_pool) := ⟨rfl, rfl, rfl, by decide +kernel, rfl, by decide +kernel, by decide +kernel⟩
abbrev s_l_stirred : Stmt := top 26
theorem sc_l_stirred : FnScope ["script", "at", "pool", "cell"] ["script", "at"] (defScope s_l_stirred) := ⟨rfl, rfl, rfl, by decide +kernel, rfl, by decide +kernel, by decide +kernel⟩
abbrev s_l_draw : Stmt := top 27
theorem sc_l_draw : FnScope ["pool", "many", "got", "x"] ["pool", "many"] (defScope s_l_draw) := ⟨rfl, rfl, rfl, by decide +kernel, rfl, by decide +kernel, by decide +kernel⟩
abbrev s_law : Stmt := top 44
theorem sc_law : FnScope ["script", "book", "pool", "bent", "how"] ["script"] (defScope s_law) := ⟨rfl, rfl, rfl, by decide +kernel, rfl, by decide +kernel, by decide +kernel⟩
abbrev s_is_name : Stmt := top 15
theorem sc_is_name : FnScope ["word", "character"] ["word"] (defScope s_is_name) := ⟨rfl, rfl, rfl, by decide +kernel, rfl, by decide +kernel, by decide +kernel⟩
abbrev s_check_choice : Stmt := top 21
theorem sc_check_choice : FnScope ["choice", "states", "deed", "state", "argument", "following", "answer"] ["choice", "states"] (defScope s_check_choice) := ⟨rfl, rfl, rfl, by decide +kernel, rfl, by decide +kernel, by decide +kernel⟩
abbrev s_grouped_options : Stmt := top 22
theorem sc_grouped_options : FnScope ["choices", "grouped", "deed", "state", "argument", "following", "answer", "key", "options"] ["choices"] (defScope s_grouped_options) := ⟨rfl, rfl, rfl, by decide +kernel, rfl, by decide +kernel, by decide +kernel⟩
abbrev s_l_same : Stmt := top 28
theorem sc_l_same : FnScope ["told", "due", "k"] ["told", "due"] (defScope s_l_same) := ⟨rfl, rfl, rfl, by decide +kernel, rfl, by decide +kernel, by decide +kernel⟩
abbrev s_l_name : Stmt := top 29
theorem sc_l_name : FnScope ["pool", "signs", "size", "name", "k"] ["pool"] (defScope s_l_name) := ⟨rfl, rfl, rfl, by decide +kernel, rfl, by decide +kernel, by decide +kernel⟩
abbrev s_l_names : Stmt := top 30
theorem sc_l_names : FnScope ["pool", "names", "k", "name", "at"] ["pool"] (defScope s_l_names) := ⟨rfl, rfl, rfl, by decide +kernel, rfl, by decide +kernel, by decide +kernel⟩
abbrev s_l_odd_name : Stmt := top 31
theorem sc_l_odd_name : FnScope ["pool", "name", "at", "signs", "sign", "size", "odd"] ["pool", "name"] (defScope s_l_odd_name) := ⟨rfl, rfl, rfl, by decide +kernel, rfl, by decide +kernel, by decide +kernel⟩
abbrev s_l_is_name : Stmt := top 32
theorem sc_l_is_name : FnScope ["word", "sign"] ["word"] (defScope s_l_is_name) := ⟨rfl, rfl, rfl, by decide +kernel, rfl, by decide +kernel, by decide +kernel⟩
abbrev s_l_book : Stmt := top 33
theorem sc_l_book : FnScope ["pool", "names", "states", "spread", "near", "tame", "first", "choices", "k", "home", "name", "choice", "alike", "c"] ["pool"] (defScope s_l_book) := ⟨rfl, rfl, rfl, by decide +kernel, rfl, by decide +kernel, by decide +kernel⟩
abbrev s_l_more_options : Stmt := top 34
theorem sc_l_more_options : FnScope ["pool", "states", "choices", "at", "key", "many", "k", "choice", "alike", "c"] ["pool", "states", "choices", "at"] (defScope s_l_more_options) := ⟨rfl, rfl, rfl, by decide +kernel, rfl, by decide +kernel, by decide +kernel⟩
abbrev s_l_bent : Stmt := top 35
theorem sc_l_bent : FnScope ["pool", "book", "states", "first", "choices", "way", "far", "at", "choice", "place", "bound", "value", "to"] ["pool", "book"] (defScope s_l_bent) := ⟨rfl, rfl, rfl, by decide +kernel, rfl, by decide +kernel, by decide +kernel⟩
abbrev s_l_is_book : Stmt := top 36
theorem sc_l_is_book : FnScope ["book", "states", "first", "choices", "c", "d"] ["book"] (defScope s_l_is_book) := ⟨rfl, rfl, rfl, by decide +kernel, rfl, by decide +kernel, by decide +kernel⟩
abbrev s_l_handed : Stmt := top 37
theorem sc_l_handed : FnScope ["choices", "how", "choice"] ["choices", "how"] (defScope s_l_handed) := ⟨rfl, rfl, rfl, by decide +kernel, rfl, by decide +kernel, by decide +kernel⟩
abbrev s_l_spoil : Stmt := top 38
theorem sc_l_spoil : FnScope ["given", "how", "k", "row"] ["given", "how"] (defScope s_l_spoil) := ⟨rfl, rfl, rfl, by decide +kernel, rfl, by decide +kernel, by decide +kernel⟩
abbrev s_l_refused : Stmt := top 39
theorem sc_l_refused : FnScope ["states", "first", "given", "good", "e"] ["states", "first", "given"] (defScope s_l_refused) := ⟨rfl, rfl, rfl, by decide +kernel, rfl, by decide +kernel, by decide +kernel⟩
abbrev s_l_options_hold : Stmt := top 40
theorem sc_l_options_hold : FnScope ["told", "choices", "key", "due", "got", "c"] ["told", "choices", "key"] (defScope s_l_options_hold) := ⟨rfl, rfl, rfl, by decide +kernel, rfl, by decide +kernel, by decide +kernel⟩
abbrev s_l_keeps : Stmt := top 41
theorem sc_l_keeps : FnScope ["told", "book", "keys", "states", "first", "choices", "single", "c", "key", "d"] ["told", "book", "keys"] (defScope s_l_keeps) := ⟨rfl, rfl, rfl, by decide +kernel, rfl, by decide +kernel, by decide +kernel⟩
abbrev s_l_keys : Stmt := top 42
theorem sc_l_keys : FnScope ["choices", "strange", "c", "keys"] ["choices"] (defScope s_l_keys) := ⟨rfl, rfl, rfl, by decide +kernel, rfl, by decide +kernel, by decide +kernel⟩
abbrev s_l_book_holds : Stmt := top 43
theorem sc_l_book_holds : FnScope ["book", "how", "states", "first", "choices", "given", "told", "c"] ["book", "how"] (defScope s_l_book_holds) := ⟨rfl, rfl, rfl, by decide +kernel, rfl, by decide +kernel, by decide +kernel⟩
abbrev s_PlainBook___init__ : Stmt := inClass (top 20) 0
theorem sc_PlainBook___init__ : FnScope ["self", "states", "first", "choices", "choice"] ["self", "states", "first", "choices"] (defScope s_PlainBook___init__) := ⟨rfl, rfl, rfl, by decide +kernel, rfl, by decide +kernel, by decide +kernel⟩
abbrev s_PlainBook_options : Stmt := inClass (top 20) 1
theorem sc_PlainBook_options : FnScope ["self", "deed", "state", "argument"] ["self", "deed", "state", "argument"] (defScope s_PlainBook_options) := ⟨rfl, rfl, rfl, by decide +kernel, rfl, by decide +kernel, by decide +kernel⟩
abbrev s_PlainBook_deterministic : Stmt := inClass (top 20) 2
theorem sc_PlainBook_deterministic : FnScope ["self", "options"] ["self"] (defScope s_PlainBook_deterministic) := ⟨rfl, rfl, rfl, by decide +kernel, rfl, by decide +kernel, by decide +kernel⟩
structure Txt (K : PySem.W.Frag) (mg : Str → Option Value) (CPlainBook COddsError CBadShare CBadText CBadBook CBadMove CBadProgram CBadPlan CUnfit CTooLarge CBadEdit : Addr) : Prop where
  d_l_int : Df K mg "_law_int" s_l_int
  d_l_pool : Df K mg "_law_pool" s_l_pool
  d_l_stirred : Df K mg "_law_stirred" s_l_stirred
  d_l_draw : Df K mg "_law_draw" s_l_draw
  d_law : Df K mg "law" s_law
  d_is_name : Df K mg "is_name" s_is_name
  d_check_choice : Df K mg "check_choice" s_check_choice
  d_grouped_options : Df K mg "grouped_options" s_grouped_options
  d_l_same : Df K mg "_law_same" s_l_same
  d_l_name : Df K mg "_law_name" s_l_name
  d_l_names : Df K mg "_law_names" s_l_names
  d_l_odd_name : Df K mg "_law_odd_name" s_l_odd_name
  d_l_is_name : Df K mg "_law_is_name" s_l_is_name
  d_l_book : Df K mg "_law_book" s_l_book
  d_l_more_options : Df K mg "_law_more_options" s_l_more_options
  d_l_bent : Df K mg "_law_bent" s_l_bent
  d_l_is_book : Df K mg "_law_is_book" s_l_is_book
  d_l_handed : Df K mg "_law_handed" s_l_handed
  d_l_spoil : Df K mg "_law_spoil" s_l_spoil
  d_l_refused : Df K mg "_law_refused" s_l_refused
  d_l_options_hold : Df K mg "_law_options_hold" s_l_options_hold
  d_l_keeps : Df K mg "_law_keeps" s_l_keeps
  d_l_keys : Df K mg "_law_keys" s_l_keys
  d_l_book_holds : Df K mg "_law_book_holds" s_l_book_holds
  n_isinstance : mg "isinstance" = none
  n_int : mg "int" = none
  n_bool : mg "bool" = none
  n_str : mg "str" = none
  n_tuple : mg "tuple" = none
  n_list : mg "list" = none
  n_len : mg "len" = none
  n_abs : mg "abs" = none
  n_max : mg "max" = none
  n_min : mg "min" = none
  n_range : mg "range" = none
  n_ValueError : mg "ValueError" = none
  g_LETTERS : ∃ u, mg "LETTERS" = some u ∧ RelV (.str "abcdefghijklmnopqrstuvwxyz") u
  g_DIGITS : ∃ u, mg "DIGITS" = some u ∧ RelV (.str "0123456789") u
  g_MOST_NAME_CHARACTERS : ∃ u, mg "MOST_NAME_CHARACTERS" = some u ∧ RelV (.int 20) u
  g_MOST_STATES : ∃ u, mg "MOST_STATES" = some u ∧ RelV (.int 600) u
  g_MOST_OPTIONS : ∃ u, mg "MOST_OPTIONS" = some u ∧ RelV (.int 4) u
  g_VALUE_LIMIT : ∃ u, mg "VALUE_LIMIT" = some u ∧ RelV (.int 8) u
  pb : PbC K mg CPlainBook
  d_init : ∃ f fd, Mk K CPlainBook f ∧ Fun K "__init__" "PlainBook.__init__" s_PlainBook___init__ f fd
  d_PlainBook_options : Dm K CPlainBook "options" "PlainBook.options" s_PlainBook_options
  d_det : ∃ p g fd, PropOf K CPlainBook "deterministic" p g ∧ Fun K "deterministic" "PlainBook.deterministic" s_PlainBook_deterministic g fd
  x_BadBook : PySem.W.excIn K CBadBook [.type "ValueError", .type "Exception", .type "BaseException", .type "object"] "ValueError.__new__" = true
  e_OddsError : ErrC K mg "OddsError" COddsError
  e_BadShare : ErrC K mg "BadShare" CBadShare
  e_BadText : ErrC K mg "BadText" CBadText
  e_BadBook : ErrC K mg "BadBook" CBadBook
  e_BadMove : ErrC K mg "BadMove" CBadMove
  e_BadProgram : ErrC K mg "BadProgram" CBadProgram
  e_BadPlan : ErrC K mg "BadPlan" CBadPlan
  e_Unfit : ErrC K mg "Unfit" CUnfit
  e_TooLarge : ErrC K mg "TooLarge" CTooLarge
  e_BadEdit : ErrC K mg "BadEdit" CBadEdit
  up : PySem.W.subIn K (.ref CBadBook) (.ref COddsError) = some true
  upV : PySem.W.subIn K (.ref CBadBook) (.type "ValueError") = some true
  no_BadShare : PySem.W.subIn K (.ref CBadBook) (.ref CBadShare) = some false ∧ CBadBook ≠ CBadShare
  no_BadText : PySem.W.subIn K (.ref CBadBook) (.ref CBadText) = some false ∧ CBadBook ≠ CBadText
  no_BadMove : PySem.W.subIn K (.ref CBadBook) (.ref CBadMove) = some false ∧ CBadBook ≠ CBadMove
  no_BadProgram : PySem.W.subIn K (.ref CBadBook) (.ref CBadProgram) = some false ∧ CBadBook ≠ CBadProgram
  no_BadPlan : PySem.W.subIn K (.ref CBadBook) (.ref CBadPlan) = some false ∧ CBadBook ≠ CBadPlan
  no_Unfit : PySem.W.subIn K (.ref CBadBook) (.ref CUnfit) = some false ∧ CBadBook ≠ CUnfit
  no_TooLarge : PySem.W.subIn K (.ref CBadBook) (.ref CTooLarge) = some false ∧ CBadBook ≠ CTooLarge
  no_BadEdit : PySem.W.subIn K (.ref CBadBook) (.ref CBadEdit) = some false ∧ CBadBook ≠ CBadEdit
/-! ## what the draws are worth -/
def spPool (K : PySem.W.Frag) : Sp := fun vs H Q _ => ∃ (a : Addr) (ns : List Int) (i : Int), vs = [.ref a, .int i] ∧ Scr K H a ns ∧ 0 ≤ i ∧ ∀ p H', H p = none → Kp [] H H' → Pool H' p → Q (.ref p) H'
def spDraw : Sp := fun vs H Q _ => ∃ (a : Addr) (m : Int), vs = [.ref a, .int m] ∧ Pool H a ∧ m ≤ 10000000000000000000000000000000000000000000000000000000000000000000000 ∧ ∀ r H', 0 ≤ r → (r < m ∨ r = 0) → Kp [a] H H' → Pool H' a → Q (.int r) H'
def spInt : Sp := fun vs H Q _ => ∃ (i : Int), vs = [.int i] ∧ Q (.bl true) H
section
variable {H : Hp} {Q : VK} {E : XK} {K : PySem.W.Frag}
theorem k_pool {a : Addr} {ns : List Int} {i : Int} (hs : Scr K H a ns) (h0 : 0 ≤ i) (k : ∀ p H', H p = none → Kp [] H H' → Pool H' p → Q (.ref p) H') : spPool K ([.ref a, .int i] ++ []) H Q E := ⟨a, ns, i, rfl, hs, h0, k⟩
theorem k_draw {a : Addr} {m : Int} (hp : Pool H a) (hm : m ≤ 10000000000000000000000000000000000000000000000000000000000000000000000) (k : ∀ r H', 0 ≤ r → (r < m ∨ r = 0) → Kp [a] H H' → Pool H' a → Q (.int r) H') : spDraw ([.ref a, .int m] ++ []) H Q E := ⟨a, m, rfl, hp, hm, k⟩
theorem k_int {i : Int} (q : Q (.bl true) H) : spInt ([.int i] ++ []) H Q E := ⟨i, rfl, q⟩
end
local macro_rules | `(tactic| tm_at "step") => `(tactic| first | (with_reducible refine' k_draw ?k1 ?k2 ?_; (case k1 => tm_at "lp"); (case k2 => k_dflt omega); intro r_ H_ h0_ h1_ hk_ hp_) | fail)
local macro_rules | `(tactic| tm_at "step") => `(tactic| first | with_reducible refine k_int ?_ | fail)
local macro_rules | `(tactic| tm_at "step") => `(tactic| first | (with_reducible refine' k_pool ?k1 ?k2 ?_; (case k1 => tm_at "ls"); (case k2 => k_dflt (tm_at "side")); intro p_ H_ hn_ hk_ hp_) | fail)

theorem h_draw {K : PySem.W.Frag} {B : Bs} {H : Hp} {Z : List Addr} {L : List Ent} {M : List (List V × List PyData)} {a : Addr} {F : Ent → List Ent} {m : Int} {Q : VK} {E : XK} (h : Hs K B Z H L M) (l : Loc L (.pool a) F) (hm : m ≤ 10000000000000000000000000000000000000000000000000000000000000000000000)
    (k : ∀ r H', 0 ≤ r → (r < m ∨ r = 0) → Hs K B Z H' L M → Q (.int r) H') : spDraw ([.ref a, .int m] ++ []) H Q E :=
  k_draw (h.pool l) hm fun r H' h0 h1 hk hp => k r H' h0 h1 (h.callW (E := E) l hk hp)
local macro_rules | `(tactic| tm_at "step") => `(tactic| first | (with_reducible refine' h_draw ?k0 ?k1 ?k2 ?_; (case k0 => with_reducible assumption); (case k1 => tm_at "loc"); (case k2 => k_dflt omega); intro r_ H_ h0_ h1_ hs_) | fail)

section
variable {P : Program} {w : World} {K : PySem.W.Frag} {mg : Str → Option Value} {base : Heap} {CPlainBook COddsError CBadShare CBadText CBadBook CBadMove CBadProgram CBadPlan CUnfit CTooLarge CBadEdit : Addr}
theorem ok_l_int (T : Txt K mg CPlainBook COddsError CBadShare CBadText CBadBook CBadMove CBadProgram CBadPlan CUnfit CTooLarge CBadEdit) : Fc P w K mg base CX0 1 "_law_int" ["x"] (spInt) := by
  refine fc_of T.d_l_int sc_l_int (fun vs H Q E h => by obtain ⟨i, rfl, k⟩ := h; rfl) (fun _ _ _ _ _ _ us hl => match us, hl with | [_], _ => rfl) fun f cdv A outer s H vs Q E hr h => ⟨_, (pss_one (ps_ret (pe_and (pe_callB (isiK K) (by rfl) T.n_isinstance b_isinstance (pa_cons (pv 0) (pa_cons (pe_bltn (v := .ty "int") (by rfl) T.n_int b_int rfl) pa_nil))) (pe_one (pe_not (pe_callB (isiK K) (by rfl) T.n_isinstance b_isinstance (pa_cons (pv 0) (pa_cons (pe_bltn (v := .ty "bool") (by rfl) T.n_bool b_bool rfl) pa_nil)))))))), ?_⟩
  obtain ⟨i, rfl, k⟩ := h
  tm_at "go"
  exact k
theorem ok_l_pool (T : Txt K mg CPlainBook COddsError CBadShare CBadText CBadBook CBadMove CBadProgram CBadPlan CUnfit CTooLarge CBadEdit) : Fc P w K mg base CX0 1 "_law_pool" ["script", "at"] (spPool K) := by
  refine fc_of T.d_l_pool sc_l_pool (fun vs H Q E h => by obtain ⟨a, ns, i, rfl, hs, h0, k⟩ := h; rfl) (fun _ _ _ _ _ _ us hl => match us, hl with | [_, _], _ => rfl) fun f cdv A outer s H vs Q E hr h => ⟨_, (pss_cons (ps_set (i := 2) sc_l_pool.nd rfl (Or.inl rfl) pe_int)
 (pss_cons (ps_if (pt_cmpR op_lt (pv 1) (pe_callB (lenK K) (by rfl) T.n_len b_len (pa_cons (pv 0) pa_nil)) (nomark _))
 (pss_one (ps_set (i := 2) sc_l_pool.nd rfl (Or.inl rfl) (pe_callB c_abs (by rfl) T.n_abs b_abs (pa_cons (pe_callTy c_int1 (by rfl) T.n_int b_int (pa_cons (pe_ix (ixlK K) (pv 0) (pv 1) (fun _ _ => rfl)) pa_nil)) pa_nil))))
 pss_nil)
 (pss_cons (ps_set (i := 3) sc_l_pool.nd rfl (Or.inl rfl) (pe_op op_add (pe_callTy c_int1 (by rfl) T.n_int b_int (pa_cons (pe_cmpR op_gt (pv 2) pe_int (nomark _)) pa_nil)) (pe_callTy c_int1 (by rfl) T.n_int b_int (pa_cons (pe_cmpR op_ge (pv 2) (pe_op op_pow pe_int pe_int) (nomark _)) pa_nil))))
 (pss_one (ps_ret (pe_lst (pa_cons (pv 2) (pa_cons (pe_op op_mod (pe_callTy c_int1 (by rfl) T.n_int b_int (pa_cons (pv 2) pa_nil)) pe_int) (pa_cons pe_int (pa_cons (pv 3) pa_nil)))))))))), ?_⟩
  obtain ⟨a, ns, i, rfl, hs, h0, k⟩ := h
  tm_at "go"
  · rename_i hc
    obtain ⟨z, hz⟩ := atI_int h0 hc
    refine u_ixL hs.sq hz ?_
    tm_at "run"
    rename_i hp
    exact k _ _ (by assumption) (by assumption) ⟨_, _, _, _, hp⟩
  · rename_i hp
    exact k _ _ (by assumption) (by assumption) ⟨_, _, _, _, hp⟩
theorem ok_l_stirred (T : Txt K mg CPlainBook COddsError CBadShare CBadText CBadBook CBadMove CBadProgram CBadPlan CUnfit CTooLarge CBadEdit) : Fc P w K mg base CX0 2 "_law_stirred" ["script", "at"] (spPool K) := by
  refine fc_of T.d_l_stirred sc_l_stirred (fun vs H Q E h => by obtain ⟨a, ns, i, rfl, hs, h0, k⟩ := h; rfl) (fun _ _ _ _ _ _ us hl => match us, hl with | [_, _], _ => rfl) fun f cdv A outer s H vs Q E hr h => ⟨_, (pss_cons (ps_set (i := 2) sc_l_stirred.nd rfl (Or.inl rfl) (pe_fc (ok_l_pool T) pass0 (hr.mono (by omega)) (pa_cons (pv 0) (pa_cons (pv 1) pa_nil))))
 (pss_cons (ps_for PassesOwn.never rfl (piLK K (pe_slice (sllK K) (pv 0) po_none (po_some pe_int))) (pg_name (i := 3) sc_l_stirred.nd rfl (Or.inl rfl))
 (pss_one (ps_asg (pe_op op_mod (pe_callTy c_int1 (by rfl) T.n_int b_int (pa_cons (pe_op op_add (pe_op op_mul (pe_ix (ixlK K) (pv 2) pe_int (fun _ _ => rfl)) pe_int) (pv 3)) pa_nil)) pe_int) (pg_sub (pv 2) pe_int set_list))))
 (pss_one (ps_ret (pv 2))))), ?_⟩
  obtain ⟨a, ns, i, rfl, hs, h0, k⟩ := h
  tm_at "go"
  rename_i p H1 hn hk hp q H2 hn2 hk2 hq
  obtain ⟨ms, em, _⟩ := cutV_map (ns := ns) (lo := none) (hi := some 6)
  rw [em] at hq
  refine l_list (ms.map V.int) (fun _ σ H' => ∃ v : Option V, σ = [some (.ref a), some (.int i), some (.ref p), v] ∧ Kp [] H H' ∧ Pool H' p ∧ H' q = some (.lst (ms.map V.int))) ?_ ?_ ?_ ?_
  · exact ⟨none, rfl, by tm_at "kc", by tm_at "lp", hq⟩
  · rintro j σ H' _ ⟨_, _, _, _, e⟩
    exact sql e
  · rintro j x σ H3 hx ⟨v, rfl, hk3, ⟨c, y, n, d, hp3⟩, hq3⟩
    obtain ⟨z, rfl⟩ := item_int hx
    have npq : q ≠ p := (Pool.ne hn2 hp).symm
    tm_at "run"
    rename_i H4 hk4 hp4
    exact ⟨_, rfl, hk3.low' hk4 hn .refl, ⟨_, _, _, _, hp4⟩, hk4.get1 npq hq3⟩
  · rintro σ H3 ⟨v, rfl, hk3, hp3, _⟩
    tm_at "run"
    exact k _ _ hn hk3 hp3
theorem ok_l_draw (T : Txt K mg CPlainBook COddsError CBadShare CBadText CBadBook CBadMove CBadProgram CBadPlan CUnfit CTooLarge CBadEdit) : Fc P w K mg base CX0 1 "_law_draw" ["pool", "many"] (spDraw) := by
  refine fc_of T.d_l_draw sc_l_draw (fun vs H Q E h => by obtain ⟨a, m, rfl, ⟨c, x, n, j, hp⟩, hm, k⟩ := h; rfl) (fun _ _ _ _ _ _ us hl => match us, hl with | [_, _], _ => rfl) fun f cdv A outer s H vs Q E hr h => ⟨_, (pss_cons (ps_asg (pe_op op_add (pe_ix (ixlK K) (pv 0) pe_int (fun _ _ => rfl)) pe_int) (pg_sub (pv 0) pe_int set_list))
 (pss_cons (ps_if (PW.pt (pw_or (pt_cmpR op_eq (pe_ix (ixlK K) (pv 0) pe_int (fun _ _ => rfl)) pe_int (nomark _)) (pw_or1 (pt_cmpR op_lt (pv 1) pe_int (nomark _)))))
 (pss_one (ps_ret pe_int))
 pss_nil)
 (pss_cons (ps_if (PW.pt (pw_and (pt_cmpR op_eq (pe_ix (ixlK K) (pv 0) pe_int (fun _ _ => rfl)) pe_int (nomark _)) (pw_and1 (pt_cmpR op_gt (pe_ix (ixlK K) (pv 0) pe_int (fun _ _ => rfl)) pe_int (nomark _)))))
 (pss_cons (ps_set (i := 2) sc_l_draw.nd rfl (Or.inl rfl) (pe_op op_mod (pe_callTy c_int1 (by rfl) T.n_int b_int (pa_cons (pe_ix (ixlK K) (pv 0) pe_int (fun _ _ => rfl)) pa_nil)) (pv 1)))
 (pss_cons (ps_asg (pe_op op_fdivW (pe_ix (ixlK K) (pv 0) pe_int (fun _ _ => rfl)) (pv 1)) (pg_sub (pv 0) pe_int set_list))
 (pss_one (ps_ret (pv 2)))))
 pss_nil)
 (pss_cons (ps_set (i := 3) sc_l_draw.nd rfl (Or.inl rfl) (pe_op op_mod (pe_callTy c_int1 (by rfl) T.n_int b_int (pa_cons (pe_op op_add (pe_op op_add (pe_op op_mul (pe_ix (ixlK K) (pv 0) pe_int (fun _ _ => rfl)) pe_int) (pe_op op_mul (pe_ix (ixlK K) (pv 0) pe_int (fun _ _ => rfl)) pe_int)) pe_int) pa_nil)) pe_int))
 (pss_cons (ps_set (i := 3) sc_l_draw.nd rfl (Or.inl rfl) (pe_op op_mod (pe_callTy c_int1 (by rfl) T.n_int b_int (pa_cons (pe_op op_add (pe_op op_mul (pv 3) (pv 3)) (pe_ix (ixlK K) (pv 0) pe_int (fun _ _ => rfl))) pa_nil)) pe_int))
 (pss_cons (ps_set (i := 3) sc_l_draw.nd rfl (Or.inl rfl) (pe_op op_mod (pe_callTy c_int1 (by rfl) T.n_int b_int (pa_cons (pe_op op_add (pe_op op_mul (pv 3) (pv 3)) (pe_ix (ixlK K) (pv 0) pe_int (fun _ _ => rfl))) pa_nil)) pe_int))
 (pss_one (ps_ret (pe_op op_mod (pe_callTy c_int1 (by rfl) T.n_int b_int (pa_cons (pe_op op_fdivW (pv 3) pe_int) pa_nil)) (pv 1)))))))))), ?_⟩
  obtain ⟨a, m, rfl, ⟨c, x, n, j, hp⟩, hm, k⟩ := h
  tm_at "go"
  · exact k _ _ (by omega) (by omega) (by tm_at "kc") ⟨_, _, _, _, by assumption⟩
  · exact k _ _ (by omega) (by omega) (by tm_at "kc") ⟨_, _, _, _, by assumption⟩
  all_goals exact k _ _ (Int.emod_nonneg _ (by omega)) (Or.inl (Int.emod_lt_of_pos _ (by omega))) (by tm_at "kc") ⟨_, _, _, _, by assumption⟩

end
end My
set_option Elab.async false
set_option linter.all false
set_option autoImplicit false
set_option maxRecDepth 100000
set_option maxHeartbeats 4000000
namespace My
open PySem PySem.Spec PyProof.Rows L2 U
local macro_rules | `(tactic| tm_at "step") => `(tactic| first | (with_reducible refine br_b ?_ ?_ <;> intro hb_) | fail)

/-! my own steps: rows of tactics, tried from above -/
local macro_rules | `(tactic| tm_at "lk") => `(tactic| first | with_reducible assumption | (with_reducible refine' Kp.get0 ?k1 ?k2; (case k1 => with_reducible assumption); (case k2 => tm_at "lk")) | (with_reducible refine' Kp.get1 ?k1 ?k3 ?k2; (case k1 => with_reducible assumption); (case k3 => tm_at "ne"); (case k2 => tm_at "lk")) | fail)
local macro_rules | `(tactic| tm_at "lp") => `(tactic| first | with_reducible assumption | (with_reducible refine' Pool.kp0 ?k1 ?k2; (case k1 => with_reducible assumption); (case k2 => tm_at "lp")) | (with_reducible refine' Pool.kp1 ?k1 ?k3 ?k2; (case k1 => with_reducible assumption); (case k3 => tm_at "ne"); (case k2 => tm_at "lp")) | fail)
local macro_rules | `(tactic| tm_at "ls") => `(tactic| first | with_reducible assumption | (with_reducible refine' Scr.kp0 ?k1 ?k2; (case k1 => with_reducible assumption); (case k2 => tm_at "ls")) | (with_reducible refine' Scr.kp1 ?k1 ?k3 ?k4 ?k2; (case k1 => with_reducible assumption); (case k3 => with_reducible assumption); (case k4 => tm_at "ls"); (case k2 => tm_at "ls")) | fail)
local macro_rules | `(tactic| tm_at "ne") => `(tactic| first | with_reducible assumption | (with_reducible refine' Ne.symm ?k1; with_reducible assumption) | (with_reducible refine' ne_new ?k1 ?k2; (case k1 => with_reducible assumption); (case k2 => tm_at "lk")) | (with_reducible refine' ne_new' ?k1 ?k2; (case k1 => with_reducible assumption); (case k2 => tm_at "lk")) | (with_reducible refine' Pool.ne ?k1 ?k2; (case k1 => with_reducible assumption); (case k2 => tm_at "lp")) | (with_reducible refine' Ne.symm (Pool.ne ?k1 ?k2); (case k1 => with_reducible assumption); (case k2 => tm_at "lp")) | fail)
local macro_rules | `(tactic| tm_at "kc") => `(tactic| first | with_reducible assumption | with_reducible exact Kp.refl | (with_reducible refine' Kp.trans ?k1 (Kp.of0 ?k2); (case k2 => with_reducible assumption); (case k1 => tm_at "kc")) | (with_reducible refine' Kp.trans ?k1 ?k2; (case k2 => with_reducible assumption); (case k1 => tm_at "kc")) | (with_reducible refine' Kp.low' ?k1 ?k2 ?k3 ?k4; (case k2 => with_reducible assumption); (case k3 => with_reducible assumption); (case k1 => tm_at "kc"); (case k4 => tm_at "kc")) | fail)
local macro_rules | `(tactic| tm_at "sq") => `(tactic| first | (with_reducible refine' sql ?k9; (case k9 => tm_at "lk")) | (with_reducible refine' Scr.sq ?k9; (case k9 => tm_at "ls")) | fail)
local macro_rules | `(tactic| tm_at "sqt") => `(tactic| first | (with_reducible refine' sqt ?k9; (case k9 => tm_at "lk")) | fail)
local macro_rules | `(tactic| tm_at "bt") => `(tactic| first | with_reducible assumption | (with_reducible refine' Bt.mul ?k1 ?k2; (case k1 => tm_at "bt"); (case k2 => tm_at "bt")) | (with_reducible refine' Bt.addM ?k1 ?k2; (case k1 => tm_at "bt"); (case k2 => tm_at "bt")) | (with_reducible refine' Bt.subM ?k1 ?k2; (case k1 => tm_at "bt"); (case k2 => tm_at "bt")) | (with_reducible refine' Bt.neg ?k1; (case k1 => tm_at "bt")) | fail)
local macro_rules | `(tactic| tm_at "bm") => `(tactic| first | with_reducible assumption | (with_reducible refine' Bt.mono ?k1 ?k2; (case k1 => with_reducible assumption); (case k2 => k_dflt decide)) | fail)
local macro_rules | `(tactic| tm_at "side") => `(tactic| first | with_reducible assumption | (with_reducible refine' Bt.cmul ?k1 ?k2 ?k3; (case k1 => tm_at "bt"); (case k2 => tm_at "bt"); (case k3 => k_dflt decide)) | (with_reducible refine cmul_of ?k1; (case k1 => omega)) | (with_reducible refine cpow_of ?k1; (case k1 => omega)) | (with_reducible refine cdivw_of ?k1; (case k1 => omega)) | (with_reducible refine cdivw_big ?k1; (case k1 => omega)) | (with_reducible refine cmulx_of ?k1; (case k1 => omega)) | omega | fail)
local macro_rules | `(tactic| tm_at "step") => `(tactic| first
  | with_reducible refine u_op ?_
  | (with_reducible refine' u_var ?k1 ?_; (case k1 => k_dflt rfl))
  | with_reducible refine u_c ?_
  | with_reducible refine u_I0 ?_
  | with_reducible refine u_seq ?_
  | with_reducible refine u_asg ?_
  | with_reducible refine g_name ?_
  | with_reducible refine u_cb ?_
  | with_reducible refine u_cons ?_
  | with_reducible refine u_nil ?_
  | (with_reducible refine' u_pow ?k1 ?k2 ?_; (case k1 => k_dflt (tm_at "side")); (case k2 => (conv => lhs; simp only [Int.reduceToNat, Int.reducePow]) <;> rfl))
  | (with_reducible refine' u_I ?k1 ?_; (case k1 => k_dflt (tm_at "side")))
  | with_reducible refine u_int1 ?_
  | with_reducible refine u_intB ?_
  | with_reducible refine u_if ?_
  | with_reducible refine u_test ?_
  | with_reducible refine u_tb ?_
  | with_reducible refine u_tB ?_
  | with_reducible refine u_eqI ?_
  | with_reducible refine u_neI ?_
  | with_reducible refine u_eqB ?_
  | with_reducible refine u_and ?_
  | with_reducible refine u_or ?_
  | with_reducible refine u_not ?_
  | with_reducible refine u_andV ?_
  | with_reducible refine u_orV ?_
  | with_reducible refine u_notV ?_
  | with_reducible refine br_t ?_
  | with_reducible refine br_f ?_
  | with_reducible refine br_nt ?_
  | with_reducible refine br_nf ?_
  | with_reducible refine br_n ?_
  | with_reducible refine u_ret ?_
  | with_reducible refine u_next ?_
  | with_reducible refine u_drop ?_
  | with_reducible refine u_un ?_
  | with_reducible refine u_U ?_
  | with_reducible refine u_call ?_
  | with_reducible refine u_fldN ?_
  | with_reducible refine g_sub ?_
  | with_reducible refine g_cons ?_
  | with_reducible refine g_nil ?_
  | with_reducible refine u_tpar ?_
  | (with_reducible refine u_absL ?_; intro m_ h1_ h2_)
  | (with_reducible refine u_maxL ?_; intro m_ h1_ h2_ h3_)
  | (with_reducible refine u_minL ?_; intro m_ h1_ h2_ h3_)
  | with_reducible refine u_gcd ?_
  | with_reducible refine u_isi_ii ?_
  | with_reducible refine u_isi_ib ?_
  | with_reducible refine u_isi_bb ?_
  | with_reducible refine u_tupN ?_
  | with_reducible refine u_lstN ?_
  | (with_reducible refine' u_ixL ?k1 ?k2 ?_; (case k1 => tm_at "sq"); (case k2 => first | with_reducible assumption | k_dflt rfl))
  | (with_reducible refine' u_ixT ?k1 ?k2 ?_; (case k1 => tm_at "sqt"); (case k2 => k_dflt rfl))
  | (with_reducible refine' g_tup ?k1 ?k2 ?_; (case k1 => tm_at "sqt"); (case k2 => k_dflt rfl))
  | (with_reducible refine' u_lenL ?k1 ?_; (case k1 => tm_at "sq"))
  | (with_reducible refine' u_lenT ?k1 ?_; (case k1 => tm_at "sqt"))
  | with_reducible refine u_for ?_
  | with_reducible refine u_iL ?_
  | with_reducible refine u_iT ?_
  | with_reducible refine u_r1 ?_
  | with_reducible refine u_r2 ?_
  | (with_reducible refine' u_iLq ?k1 ?_; (case k1 => tm_at "sq"))
  | (with_reducible refine' u_iTq ?k1 ?_; (case k1 => tm_at "sqt"))
  | (with_reducible refine' u_r1q ?k1 ?_; (case k1 => (constructor <;> omega)))
  | (with_reducible refine' u_r2q ?k1 ?_; (case k1 => (refine ⟨?_, ?_, ?_, ?_⟩ <;> omega)))
  | with_reducible refine u_lc ?_
  | with_reducible refine u_yes ?_
  | (with_reducible refine endQ ?k1 ?_; (case k1 => k_dflt rfl))
  | with_reducible refine u_meth ?_
  | with_reducible refine u_callS ?_
  | with_reducible refine u_bm ?_
  | (with_reducible refine' bm_list ?k1 ?_; (case k1 => tm_at "lk"))
  | (with_reducible refine' u_append ?k1 ?k2 ?_; (case k1 => tm_at "lk"); (case k2 => omega); intro H_ hk_ ho_)
  | (with_reducible refine' appE ?k1 ?k2 ?_; (case k1 => tm_at "lk"); (case k2 => omega); intro H_ hk_ ho_)
  | with_reducible refine u_sl ?_
  | with_reducible refine u_noPart ?_
  | with_reducible refine u_part ?_
  | with_reducible refine u_intq ?_
  | (with_reducible refine' u_slL ?k1 ?_; (case k1 => tm_at "sq"); intro p_ H_ hn_ hk_ ho_)
  | (with_reducible refine' n_tup ?k1 ?_; (case k1 => k_dflt (exact Nat.le_of_ble_eq_true rfl)); intro p_ H_ hn_ hk_ ho_)
  | (with_reducible refine' n_lst ?k1 ?_; (case k1 => k_dflt (exact Nat.le_of_ble_eq_true rfl)); intro p_ H_ hn_ hk_ ho_)
  | (with_reducible refine' s_list ?k1 ?k2 ?_; (case k1 => tm_at "lk"); (case k2 => k_dflt rfl); intro H_ hk_ ho_)
  | (with_reducible refine br_d ?_ ?_ <;> intro hc_) | fail)
local macro_rules | `(tactic| tm_at "run") => `(tactic| repeat' tm_at "step")
local macro_rules | `(tactic| tm_at "go") => `(tactic| ((try dsimp only [cxOf, Cx.nox, Cx.wish]); tm_at "run"))

/-! steps over Hs -/
local macro_rules | `(tactic| tm_at "mem") => `(tactic| first | with_reducible exact List.mem_cons_self | (with_reducible refine' List.mem_cons_of_mem _ ?k1; (case k1 => tm_at "mem")) | fail)
local macro_rules | `(tactic| tm_at "loc") => `(tactic| first | with_reducible exact Loc.here | (with_reducible refine' Loc.there ?k1; (case k1 => tm_at "loc")) | fail)
local macro_rules | `(tactic| tm_at "rem") => `(tactic| first | with_reducible exact Rem.here | (with_reducible refine' Rem.there ?k1; (case k1 => tm_at "rem")) | fail)
local macro_rules | `(tactic| tm_at "suf") => `(tactic| first | with_reducible exact Suf.refl | (with_reducible refine' Suf.keep ?k1; (case k1 => tm_at "suf")) | (with_reducible refine' Suf.cons ?k1; (case k1 => tm_at "suf")) | fail)
local macro_rules | `(tactic| tm_at "wk") => `(tactic| first | with_reducible assumption | (with_reducible refine' Hs.wk ?k1 ?k2 ?k3; (case k1 => with_reducible assumption); (case k2 => tm_at "suf"); (case k3 => tm_at "suf")) | fail)
local macro_rules | `(tactic| tm_at "dt") => `(tactic| first | with_reducible exact Dt.int _ | with_reducible exact Dt.str _ | with_reducible exact Dt.bl _ | with_reducible exact Dt.non | with_reducible assumption | (with_reducible refine' Hs.dt ?k1 ?k2; (case k1 => with_reducible assumption); (case k2 => tm_at "mem")) | (with_reducible refine' Hs.dtup ?k1 ?k2 ?k3; (case k1 => with_reducible assumption); (case k2 => tm_at "loc"); (case k3 => tm_at "dts")) | fail)
local macro_rules | `(tactic| tm_at "dts") => `(tactic| first | with_reducible exact Dts.nil | (with_reducible refine' Dts.cons ?k1 ?k2; (case k1 => tm_at "dt"); (case k2 => tm_at "dts")) | with_reducible assumption | (with_reducible refine' Hs.dts ?k1 ?k2; (case k1 => with_reducible assumption); (case k2 => tm_at "mem")) | fail)
local macro_rules | `(tactic| tm_at "da") => `(tactic| first | (with_reducible refine' Da.imm ?k1; (case k1 => tm_at "dt")) | (with_reducible refine' Hs.dlst ?k1 ?k2; (case k1 => with_reducible assumption); (case k2 => tm_at "loc")) | fail)
local macro_rules | `(tactic| tm_at "lr") => `(tactic| first | with_reducible assumption | (with_reducible refine' Hs.dlv ?k1 ?k2; (case k1 => with_reducible assumption); (case k2 => tm_at "loc")) | (with_reducible refine' Dt.dlv ?k1; (case k1 => tm_at "dt")) | fail)
local macro_rules | `(tactic| tm_at "zs") => `(tactic| first | with_reducible assumption | with_reducible exact List.Subset.refl _ | (with_reducible refine' List.Subset.trans ?k1 ?k2; (case k2 => with_reducible assumption); (case k1 => tm_at "zs")) | (with_reducible refine' List.Subset.trans ?k1 (List.subset_cons_self _ _); (case k1 => tm_at "zs")) | fail)
local macro_rules | `(tactic| tm_at "at") => `(tactic| first | with_reducible assumption | k_dflt rfl | fail)
local macro_rules | `(tactic| tm_at "dep") => `(tactic| first | with_reducible assumption | (with_reducible refine' Nat.le_trans (Nat.min_le_left _ _) ?k1; (case k1 => first | with_reducible assumption | exact Nat.le_of_ble_eq_true rfl)) | (with_reducible refine' Nat.le_trans (Nat.min_le_right _ _) ?k1; (case k1 => first | with_reducible assumption | exact Nat.le_of_ble_eq_true rfl)) | fail)
local macro_rules | `(tactic| tm_at "mono") => `(tactic| (intro φ ψ h s; repeat' (first | exact fun r1 r2 r3 r4 => h _ (s r1 r2 r3 r4) | exact fun r1 r2 r3 => h _ (s r1 r2 r3) | exact fun r1 r2 => h _ (s r1 r2) | exact fun r1 => h _ (s r1) | exact h _ s | (obtain ⟨x, s⟩ := s; refine ⟨x, ?_⟩))))
local macro_rules | `(tactic| tm_at "sz") => `(tactic| first | with_reducible assumption | omega | k_dflt (exact Nat.le_of_ble_eq_true rfl) | (simp only [List.length_map, List.length_append, List.length_cons, List.length_nil]; omega) | fail)
local macro_rules | `(tactic| tm_at "pre") => `(tactic| first | with_reducible assumption | trivial | omega | (refine ⟨?_, ?_⟩ <;> tm_at "pre") | fail)
local macro_rules | `(tactic| tm_at "step") => `(tactic| first
  | (with_reducible refine' h_ixTi ?k1 ?k2 ?_; (case k1 => tm_at "dt"); (case k2 => tm_at "at"))
  | (with_reducible refine' h_ixTs ?k1 ?k2 ?_; (case k1 => tm_at "dt"); (case k2 => tm_at "at"))
  | (with_reducible refine' h_ixTb ?k1 ?k2 ?_; (case k1 => tm_at "dt"); (case k2 => tm_at "at"))
  | (with_reducible refine' h_ixTn ?k1 ?k2 ?_; (case k1 => tm_at "dt"); (case k2 => tm_at "at"))
  | (with_reducible refine' h_ixT ?k0 ?k1 ?k2 ?_; (case k0 => with_reducible assumption); (case k1 => tm_at "dt"); (case k2 => tm_at "at"); intro x_ hd_ hs_)
  | (with_reducible refine' h_ixLi ?k0 ?k1 ?k2 ?_; (case k0 => with_reducible assumption); (case k1 => tm_at "lr"); (case k2 => tm_at "at"))
  | (with_reducible refine' h_ixLs ?k0 ?k1 ?k2 ?_; (case k0 => with_reducible assumption); (case k1 => tm_at "lr"); (case k2 => tm_at "at"))
  | (with_reducible refine' h_ixLb ?k0 ?k1 ?k2 ?_; (case k0 => with_reducible assumption); (case k1 => tm_at "lr"); (case k2 => tm_at "at"))
  | (with_reducible refine' h_ixL ?k0 ?k1 ?k2 ?_; (case k0 => with_reducible assumption); (case k1 => tm_at "lr"); (case k2 => tm_at "at"); intro x_ hd_ hs_)
  | (with_reducible refine' h_gtup ?k1 ?k2 ?_; (case k1 => tm_at "dt"); (case k2 => k_dflt rfl); intro xs_ hq_)
  | (with_reducible refine' h_gci ?k1 ?_; (case k1 => with_reducible assumption); intro xs_ hq_)
  | (with_reducible refine' h_gcs ?k1 ?_; (case k1 => with_reducible assumption); intro xs_ hq_)
  | (with_reducible refine' h_gcb ?k1 ?_; (case k1 => with_reducible assumption); intro xs_ hq_)
  | (with_reducible refine' h_gcn ?k1 ?_; (case k1 => with_reducible assumption); intro xs_ hq_)
  | (with_reducible refine' h_gc ?k0 ?k1 ?_; (case k0 => with_reducible assumption); (case k1 => with_reducible assumption); intro x_ xs_ hq_ hs_)
  | (with_reducible refine' h_gn ?k1 ?_; (case k1 => with_reducible assumption))
  | (with_reducible refine' h_lenL ?k1 ?_; (case k1 => tm_at "lr"))
  | (with_reducible refine' h_lenT ?k1 ?_; (case k1 => tm_at "dt"))
  | (with_reducible refine' h_tup ?k0 ?k1 ?k2 ?_; (case k0 => with_reducible assumption); (case k1 => k_dflt (exact Nat.le_of_ble_eq_true rfl)); (case k2 => tm_at "dts"); intro p_ H_ hs_)
  | (with_reducible refine' h_lst ?k0 ?k1 ?k2 ?_; (case k0 => with_reducible assumption); (case k1 => k_dflt (exact Nat.le_of_ble_eq_true rfl)); (case k2 => tm_at "dts"); intro p_ H_ hs_)
  | (with_reducible refine' h_tupO ?k0 ?k1 ?_; (case k0 => with_reducible assumption); (case k1 => k_dflt (exact Nat.le_of_ble_eq_true rfl)); intro p_ H_ hs_)
  | (with_reducible refine' h_lstO ?k0 ?k1 ?_; (case k0 => with_reducible assumption); (case k1 => k_dflt (exact Nat.le_of_ble_eq_true rfl)); intro p_ H_ hs_)
  | fail)
local macro_rules | `(tactic| tm_at "step") => `(tactic| first
  | (with_reducible refine' h_bmL ?k0 ?k1 ?_; (case k0 => with_reducible assumption); (case k1 => tm_at "loc"))
  | (with_reducible refine' h_app ?k0 ?k1 ?k2 ?k3 ?_; (case k0 => with_reducible assumption); (case k1 => tm_at "loc"); (case k2 => tm_at "dt"); (case k3 => tm_at "sz"); intro H_ hs_)
  | (with_reducible refine' h_setL ?k0 ?k1 ?k2 ?k3 ?_; (case k0 => with_reducible assumption); (case k1 => tm_at "loc"); (case k2 => tm_at "dt"); (case k3 => tm_at "at"); intro H_ hs_)
  | (with_reducible refine' h_slL ?k0 ?k1 ?_; (case k0 => with_reducible assumption); (case k1 => tm_at "lr"); intro p_ H_ hs_)
  | (with_reducible refine' h_sl3 ?k0 ?k1 ?_; (case k0 => with_reducible assumption); (case k1 => tm_at "dt"); intro p_ H_ hs_)
  | (with_reducible refine' h_slf1 ?k0 ?k1 ?_; (case k0 => with_reducible assumption); (case k1 => tm_at "dt"); intro p_ H_ hs_)
  | (with_reducible refine' h_slT ?k0 ?k1 ?_; (case k0 => with_reducible assumption); (case k1 => tm_at "dt"); intro p_ H_ hs_)
  | (with_reducible refine' h_catLe ?k0 ?k1 ?k2 ?k3 ?k4 ?_; (case k0 => with_reducible assumption); (case k1 => tm_at "lr"); (case k2 => tm_at "lr"); (case k3 => tm_at "sz"); (case k4 => ((try simp only [List.cons_append, List.nil_append]); k_dflt rfl)); intro p_ H_ hs_)
  | (with_reducible refine' h_catTe ?k0 ?k1 ?k2 ?k3 ?k4 ?_; (case k0 => with_reducible assumption); (case k1 => tm_at "dt"); (case k2 => tm_at "dt"); (case k3 => tm_at "sz"); (case k4 => ((try simp only [List.cons_append, List.nil_append]); k_dflt rfl)); intro p_ H_ hs_)
  | (with_reducible refine' h_extL ?k0 ?k1 ?k2 ?k3 ?_; (case k0 => with_reducible assumption); (case k1 => tm_at "loc"); (case k2 => tm_at "lr"); (case k3 => tm_at "sz"); intro H_ hs_)
  | (with_reducible refine' h_tupOfL ?k0 ?k1 ?_; (case k0 => with_reducible assumption); (case k1 => tm_at "lr"); intro p_ H_ hs_)
  | (with_reducible refine' h_tupOfT ?k1 ?_; (case k1 => tm_at "dt"))
  | (with_reducible refine' h_listOfL ?k0 ?k1 ?_; (case k0 => with_reducible assumption); (case k1 => tm_at "lr"); intro p_ H_ hs_)
  | (with_reducible refine' h_listOfT ?k0 ?k1 ?_; (case k0 => with_reducible assumption); (case k1 => tm_at "dt"); intro p_ H_ hs_)
  | (with_reducible refine' h_eq ?k1 ?k2 ?k3 ?_; (case k1 => tm_at "da"); (case k2 => tm_at "da"); (case k3 => tm_at "dep"))
  | (with_reducible refine' h_ne ?k1 ?k2 ?k3 ?_; (case k1 => tm_at "da"); (case k2 => tm_at "da"); (case k3 => tm_at "dep"))
  | (with_reducible refine' h_inL ?k1 ?k2 ?k3 ?_; (case k1 => tm_at "dt"); (case k2 => tm_at "da"); (case k3 => tm_at "dep"))
  | (with_reducible refine' h_niL ?k1 ?k2 ?k3 ?_; (case k1 => tm_at "dt"); (case k2 => tm_at "da"); (case k3 => tm_at "dep"))
  | (with_reducible refine' h_inT ?k1 ?k2 ?k3 ?_; (case k1 => tm_at "dt"); (case k2 => tm_at "dt"); (case k3 => tm_at "dep"))
  | (with_reducible refine' h_niT ?k1 ?k2 ?k3 ?_; (case k1 => tm_at "dt"); (case k2 => tm_at "dt"); (case k3 => tm_at "dep"))
  | with_reducible refine u_chain ?_
  | (with_reducible refine' h_min4 ?k1 ?_; (case k1 => tm_at "dt"); intro m_ h1_ h2_ h3_ h4_ h5_)
  | (with_reducible refine' h_iL ?k1 ?_; (case k1 => tm_at "lr"))
  | (with_reducible refine' h_iT ?k1 ?_; (case k1 => tm_at "dt"))
  | (with_reducible refine' lcE ?k1 ?k2 ?k3 ?k4 ?k5 ?_; (case k1 => tm_at "wk"); (case k2 => tm_at "zs"); (case k3 => omega); (case k4 => omega); (case k5 => tm_at "dt"))
  | (with_reducible refine' lcS ?k1 ?k2 ?k3 ?_; (case k1 => tm_at "wk"); (case k2 => tm_at "zs"); (case k3 => omega))
  | with_reducible refine u_iA ?_
  | (with_reducible refine' f_repG ?k1 ?k2 ?k3 ?_; (case k1 => omega); (case k2 => omega); (case k3 => omega); intro z_ hz_)
  | (with_reducible refine' k_vA ?k0 ?k1 ?k2 ?_; (case k0 => with_reducible assumption); (case k1 => tm_at "dts"); (case k2 => tm_at "mono"))
  | (with_reducible refine' k_wA ?k0 ?k1 ?k2 ?k3 ?_; (case k0 => with_reducible assumption); (case k1 => tm_at "loc"); (case k2 => tm_at "dts"); (case k3 => tm_at "mono"))
  | (with_reducible refine' k_vlA ?k0 ?k1 ?k2 ?_; (case k0 => with_reducible assumption); (case k1 => tm_at "dts"); (case k2 => tm_at "mono"))
  | (with_reducible refine' k_wlA ?k0 ?k1 ?k2 ?k3 ?_; (case k0 => with_reducible assumption); (case k1 => tm_at "loc"); (case k2 => tm_at "dts"); (case k3 => tm_at "mono"))
  | (with_reducible refine ret_int ?_; intro H_ hs_)
  | (with_reducible refine ret_str ?_; intro H_ hs_)
  | (with_reducible refine ret_bl ?_; intro H_ hs_)
  | (with_reducible refine ret_non ?_; intro H_ hs_)
  | (with_reducible refine ret_any ?_; intro v_ Z_ H_ hz_ hs_)
  | (with_reducible refine retL ?_; intro p_ Z_ H_ hz_ hs_)
  | fail)
local macro_rules | `(tactic| tm_at "step") => `(tactic| first
  | with_reducible refine u_isNi ?_
  | with_reducible refine u_isNb ?_
  | with_reducible refine u_isNs ?_
  | with_reducible refine u_isi (.base (.str _)) kB_sb ?_
  | with_reducible refine u_isi (.base (.str _)) kB_ss ?_
  | with_reducible refine u_isi (.base (.str _)) kB_si ?_
  | with_reducible refine u_isi (.base (.bl _)) kB_bs ?_
  | with_reducible refine u_isi (.base (.bl _)) kB_bi ?_
  | with_reducible refine u_isi (.base (.int _)) kB_is ?_
  | (with_reducible refine' u_isi (ty_tup ?k1) kB_tt ?_; (case k1 => tm_at "dt"))
  | (with_reducible refine' u_isi (ty_tup ?k1) kB_tl ?_; (case k1 => tm_at "dt"))
  | (with_reducible refine' u_isi (ty_tup ?k1) kB_tb ?_; (case k1 => tm_at "dt"))
  | (with_reducible refine' u_isi (ty_tup ?k1) kB_ts ?_; (case k1 => tm_at "dt"))
  | (with_reducible refine' u_isi (ty_tup ?k1) kB_ti ?_; (case k1 => tm_at "dt"))
  | (with_reducible refine' u_isi (ty_lst ?k1) kB_lt ?_; (case k1 => tm_at "lr"))
  | (with_reducible refine' u_isi (ty_lst ?k1) kB_ll ?_; (case k1 => tm_at "lr"))
  | (with_reducible refine' u_isi (ty_lst ?k1) kB_lb ?_; (case k1 => tm_at "lr"))
  | (with_reducible refine' u_isi (ty_lst ?k1) kB_ls ?_; (case k1 => tm_at "lr"))
  | (with_reducible refine' u_isi (ty_lst ?k1) kB_li ?_; (case k1 => tm_at "lr"))
  | fail)
local macro_rules | `(tactic| tm_at "anyi") => `(tactic| (intro d hd; simp only [List.mem_cons, List.not_mem_nil, or_false] at hd; repeat' (rcases hd with rfl | hd); all_goals (first | exact ⟨_, rfl⟩ | (subst hd; exact ⟨_, rfl⟩))))
local macro_rules | `(tactic| tm_at "len") => `(tactic| (simp only [List.length_cons, List.length_nil, List.length_map, List.length_append]; omega))
local macro_rules | `(tactic| tm_at "step") => `(tactic| first
  | with_reducible refine u_dget2 ?_
  | with_reducible refine u_dput ?_
  | (with_reducible refine' h_dnewT ?k0 ?_; (case k0 => with_reducible assumption); intro p_ H_ hs_)
  | (with_reducible refine' h_dgA ?k0 ?k1 ?_; (case k0 => with_reducible assumption); (case k1 => tm_at "loc"))
  | fail)
local macro_rules | `(tactic| tm_at "finv") => `(tactic| (with_reducible refine' fin_v ?k1 ?k2 ?_; (case k1 => with_reducible assumption); (case k2 => tm_at "dt")))
local macro_rules | `(tactic| tm_at "finw") => `(tactic| (with_reducible refine' fin_w ?k1 ?k2 ?k3 ?_; (case k1 => with_reducible assumption); (case k2 => tm_at "loc"); (case k3 => tm_at "dt")))
local macro_rules | `(tactic| tm_at "finvl") => `(tactic| (with_reducible refine' fin_vl ?k1 ?k2 ?_; (case k1 => with_reducible assumption); (case k2 => tm_at "loc")))

local macro_rules | `(tactic| tm_at "step") => `(tactic| first | (with_reducible refine' k_draw ?k1 ?k2 ?_; (case k1 => tm_at "lp"); (case k2 => k_dflt omega); intro r_ H_ h0_ h1_ hk_ hp_) | fail)
local macro_rules | `(tactic| tm_at "step") => `(tactic| first | with_reducible refine k_int ?_ | fail)
local macro_rules | `(tactic| tm_at "step") => `(tactic| first | (with_reducible refine' k_pool ?k1 ?k2 ?_; (case k1 => tm_at "ls"); (case k2 => k_dflt (tm_at "side")); intro p_ H_ hn_ hk_ hp_) | fail)
local macro_rules | `(tactic| tm_at "step") => `(tactic| first | (with_reducible refine' h_draw ?k0 ?k1 ?k2 ?_; (case k0 => with_reducible assumption); (case k1 => tm_at "loc"); (case k2 => k_dflt omega); intro r_ H_ h0_ h1_ hs_) | fail)
local macro_rules | `(tactic| tm_at "ln") => `(tactic| first | with_reducible assumption | omega | (simp only [SX.S_len, Str.length_append]; omega) | fail)
local macro_rules | `(tactic| tm_at "lg") => `(tactic| first | with_reducible assumption | (with_reducible refine' bt_log ?k1; (case k1 => tm_at "bm")) | fail)
local macro_rules | `(tactic| tm_at "step") => `(tactic| first
  | with_reducible refine u_eqS ?_
  | with_reducible refine u_neS ?_
  | with_reducible refine bm_str ?_
  | with_reducible refine u_bm0 ?_
  | with_reducible refine u_find ?_
  | with_reducible refine u_asc ?_
  | with_reducible refine u_dgt ?_
  | with_reducible refine u_inS ?_
  | with_reducible refine u_niS ?_
  | with_reducible refine u_isNn ?_
  | with_reducible refine u_isNr ?_
  | (with_reducible refine' u_partS ?k1 ?k2 ?_; (case k1 => k_dflt rfl); (case k2 => tm_at "ln"); intro p_ H_ hn_ hk_ ho_)
  | (with_reducible refine' u_rmp ?k1 ?_; (case k1 => tm_at "ln"))
  | (with_reducible refine' u_addS ?k1 ?_; (case k1 => tm_at "ln"))
  | (with_reducible refine' u_lenS ?k1 ?_; (case k1 => tm_at "ln"))
  | (with_reducible refine' u_strI ?k1 ?_; (case k1 => tm_at "lg"))
  | (with_reducible refine' u_slX ?k1 ?_; (case k1 => tm_at "ln"))
  | with_reducible refine u_iS ?_
  | with_reducible refine u_iSq ?_
  | with_reducible refine u_join ?_
  | with_reducible refine js_cons ?_
  | with_reducible refine js_nil ?_
  | (with_reducible refine' jsQ ?k1 ?_; (case k1 => tm_at "ln"))
  | with_reducible refine u_fmt ?_
  | (with_reducible refine' fmtI ?k1 ?_; (case k1 => tm_at "lg"))
  | fail)

/-! names -/
def letC (c : Nat) : Bool := decide (97 ≤ c ∧ c ≤ 122)
def digC (c : Nat) : Bool := decide (48 ≤ c ∧ c ≤ 57)
def isName (z : Str) : Bool := decide (1 ≤ z.length) && decide (z.length ≤ 20) && (z.cps.toList.head?.any letC) && z.cps.toList.all fun c => letC c || digC c
theorem mem_let {c : Nat} : c ∈ (Str.ofString "abcdefghijklmnopqrstuvwxyz").cps.toList ↔ letC c = true := by
  have e : (Str.ofString "abcdefghijklmnopqrstuvwxyz").cps.toList = (List.range 26).map (97 + ·) := by decide +kernel
  rw [e]
  unfold letC
  simp only [List.mem_map, List.mem_range, decide_eq_true_eq]
  constructor
  · rintro ⟨a, h, rfl⟩; omega
  · intro h; exact ⟨c - 97, by omega, by omega⟩
theorem mem_dig {c : Nat} : c ∈ (Str.ofString "0123456789").cps.toList ↔ digC c = true := by
  have e : (Str.ofString "0123456789").cps.toList = (List.range 10).map (48 + ·) := by decide +kernel
  rw [e]
  unfold digC
  simp only [List.mem_map, List.mem_range, decide_eq_true_eq]
  constructor
  · rintro ⟨a, h, rfl⟩; omega
  · intro h; exact ⟨c - 48, by omega, by omega⟩
theorem mem_ld {c : Nat} : c ∈ (Str.ofString "abcdefghijklmnopqrstuvwxyz0123456789").cps.toList ↔ (letC c || digC c) = true := by
  have e : (Str.ofString "abcdefghijklmnopqrstuvwxyz0123456789").cps.toList = (Str.ofString "abcdefghijklmnopqrstuvwxyz").cps.toList ++ (Str.ofString "0123456789").cps.toList := by decide +kernel
  rw [e, List.mem_append, mem_let, mem_dig, Bool.or_eq_true]
theorem isName_short {z : Str} (h : z.length < 1) : isName z = false := by unfold isName; rw [decide_eq_false (by omega)]; rfl
theorem isName_long {z : Str} (h : 20 < z.length) : isName z = false := by unfold isName; rw [decide_eq_false (p := z.length ≤ 20) (by omega)]; simp
theorem head_at {z : Str} {c : Nat} (h : atI z.cps.toList 0 = some c) : z.cps.toList.head? = some c := by
  cases e : z.cps.toList with
  | nil => rw [e] at h; cases h
  | cons a r =>
    rw [e] at h
    have e2 : atI (a :: r) ((0 : Nat) : Int) = some a := atI_nat rfl
    have e3 : atI (a :: r) ((0 : Nat) : Int) = some c := h
    rw [e2] at e3
    exact e3
theorem isName_head {z : Str} {c : Nat} (h : atI z.cps.toList 0 = some c) (n : letC c = false) : isName z = false := by
  unfold isName
  rw [head_at h]
  simp [n]
theorem isName_all {z : Str} {c : Nat} (h : atI z.cps.toList 0 = some c) (n : letC c = true) (h1 : 1 ≤ z.length) (h2 : z.length ≤ 20) : isName z = z.cps.toList.all fun c => letC c || digC c := by
  unfold isName
  rw [head_at h, decide_eq_true h1, decide_eq_true h2]
  simp [n]
abbrev S_is_name : List PyData → (PyData → Prop) → Prop := fun ds φ => ∃ (z : Str), ds = [.str z] ∧ (z.length ≤ 90000) ∧ (φ (.bool (isName z)))
theorem sp_is_name {φ : PyData → Prop} {z : Str} (p_ : z.length ≤ 90000) (k_ : φ (.bool (isName z))) : S_is_name [.str z] φ := ⟨z, rfl, p_, k_⟩
local macro_rules | `(tactic| tm_at "step") => `(tactic| first | (with_reducible refine' sp_is_name ?k1 ?_; (case k1 => tm_at "pre")) | fail)
abbrev S_l_is_name : List PyData → (PyData → Prop) → Prop := fun ds φ => ∃ (z : Str), ds = [.str z] ∧ (z.length ≤ 90000) ∧ (φ (.bool (isName z)))
theorem sp_l_is_name {φ : PyData → Prop} {z : Str} (p_ : z.length ≤ 90000) (k_ : φ (.bool (isName z))) : S_l_is_name [.str z] φ := ⟨z, rfl, p_, k_⟩
local macro_rules | `(tactic| tm_at "step") => `(tactic| first | (with_reducible refine' sp_l_is_name ?k1 ?_; (case k1 => tm_at "pre")) | fail)

section
variable {P : Program} {w : World} {K : PySem.W.Frag} {mg : Str → Option Value} {base : Heap} {CPlainBook COddsError CBadShare CBadText CBadBook CBadMove CBadProgram CBadPlan CUnfit CTooLarge CBadEdit : Addr}
theorem ok_is_name (T : Txt K mg CPlainBook COddsError CBadShare CBadText CBadBook CBadMove CBadProgram CBadPlan CUnfit CTooLarge CBadEdit) : Fc P w K mg base CX0 1 "is_name" ["word"] (spV K S_is_name) := by
  refine fc_of T.d_is_name sc_is_name (fun vs H Q E h => by obtain ⟨Z, ds, zl, q, z, rfl, pre, k⟩ := h; have := q.length; rw [this]; rfl) (fun _ _ _ _ _ _ us hl => match us, hl with | [_], _ => rfl) fun f cdv A outer s H vs Q E hr h => ⟨_, (pss_cons (ps_if (PW.pt (pw_or (pt_not (pt_chain op_le op_le pe_int (pe_callB c_lenS (by rfl) T.n_len b_len (pa_cons (pv 0) pa_nil)) (C8.pe_gc (v := .int 20) rfl T.g_MOST_NAME_CHARACTERS))) (pw_or1 (pt_cmpR o_niS (pe_ix ix_str (pv 0) pe_int (fun _ _ => rfl)) (C8.pe_gc rfl T.g_LETTERS) rfl))))
 (pss_one (ps_ret pe_bl))
 pss_nil)
 (pss_cons (ps_for PassesOwn.never rfl (pi_str (pv 0)) (pg_name (i := 1) sc_is_name.nd rfl (Or.inl rfl))
 (pss_one (ps_if (PW.pt (pw_and (pt_cmpR o_niS (pv 1) (C8.pe_gc rfl T.g_LETTERS) rfl) (pw_and1 (pt_cmpR o_niS (pv 1) (C8.pe_gc rfl T.g_DIGITS) rfl))))
 (pss_one (ps_ret pe_bl))
 pss_nil)))
 (pss_one (ps_ret pe_bl)))), ?_⟩
  obtain ⟨Z, ds, zl, q, z, rfl, pre, k⟩ := h
  have hs := in_v zl q
  obtain ⟨_, e_, h2⟩ := hs.argS; clear hs; subst e_; have hs := h2; clear h2
  obtain ⟨e_, h2⟩ := hs.argN; clear hs; subst e_; have hs := h2; clear h2
  tm_at "go"
  · refine u_ixS (by omega) (by omega) (by omega) fun c hc => ?_
    tm_at "run"
    · rename_i h1 h2 hn
      rw [isName_all hc (mem_let.mp hn) (by omega) (by omega)] at k
      refine l_str (fun i σ H' => ∃ v, σ = [some (.str z), v] ∧ H' = H ∧ ∀ x ∈ z.cps.toList.take i, (letC x || digC x) = true) ?_ ?_ ?_
      · exact ⟨none, rfl, rfl, by simp⟩
      · rintro i c2 σ H' hx ⟨v, rfl, rfl, hall⟩
        have bad : ¬ c2 ∈ (Str.ofString "abcdefghijklmnopqrstuvwxyz").cps.toList → ¬ c2 ∈ (Str.ofString "0123456789").cps.toList → (z.cps.toList.all fun c => letC c || digC c) = false := fun a b => by
          rw [mem_let] at a
          rw [mem_dig] at b
          rw [List.all_eq_false]
          exact ⟨c2, List.mem_of_getElem? hx, by simp [a, b]⟩
        have good : (c2 ∈ (Str.ofString "abcdefghijklmnopqrstuvwxyz").cps.toList ∨ c2 ∈ (Str.ofString "0123456789").cps.toList) → ∀ x ∈ z.cps.toList.take (i + 1), (letC x || digC x) = true := fun a x hx2 => by
          rw [_root_.Fr.take_more hx] at hx2
          rcases List.mem_append.mp hx2 with h | h
          · exact hall x h
          · rw [List.mem_singleton.mp h, Bool.or_eq_true, ← mem_let, ← mem_dig]; exact a
        tm_at "run"
        · rename_i a
          exact ⟨_, rfl, rfl, good (.inl a)⟩
        · rename_i a b
          exact ⟨_, rfl, rfl, good (.inr b)⟩
        · rename_i a b
          tm_at "finv"
          rw [bad a b] at k
          exact k
      · rintro σ H' ⟨v, rfl, rfl, hall⟩
        tm_at "run"
        tm_at "finv"
        have e : (z.cps.toList.all fun c => letC c || digC c) = true := List.all_eq_true.mpr (by rw [List.take_length] at hall; exact hall)
        rw [e] at k
        exact k
    · rename_i h1 h2 hn
      tm_at "finv"
      rw [isName_head hc (by rw [mem_let] at hn; simpa using hn)] at k
      exact k
  · tm_at "finv"
    rw [isName_long (by omega)] at k
    exact k
  · tm_at "finv"
    rw [isName_short (by omega)] at k
    exact k
theorem ok_l_is_name (T : Txt K mg CPlainBook COddsError CBadShare CBadText CBadBook CBadMove CBadProgram CBadPlan CUnfit CTooLarge CBadEdit) : Fc P w K mg base CX0 1 "_law_is_name" ["word"] (spV K S_l_is_name) := by
  refine fc_of T.d_l_is_name sc_l_is_name (fun vs H Q E h => by obtain ⟨Z, ds, zl, q, z, rfl, pre, k⟩ := h; have := q.length; rw [this]; rfl) (fun _ _ _ _ _ _ us hl => match us, hl with | [_], _ => rfl) fun f cdv A outer s H vs Q E hr h => ⟨_, (pss_cons (ps_if (PW.pt (pw_or (pt_cmpR op_lt (pe_callB c_lenS (by rfl) T.n_len b_len (pa_cons (pv 0) pa_nil)) pe_int (nomark _)) (pw_or (pt_cmpR op_gt (pe_callB c_lenS (by rfl) T.n_len b_len (pa_cons (pv 0) pa_nil)) pe_int (nomark _)) (pw_or1 (pt_cmpR o_niS (pe_ix ix_str (pv 0) pe_int (fun _ _ => rfl)) pe_str rfl)))))
 (pss_one (ps_ret pe_bl))
 pss_nil)
 (pss_cons (ps_for PassesOwn.never rfl (pi_str (pv 0)) (pg_name (i := 1) sc_l_is_name.nd rfl (Or.inl rfl))
 (pss_one (ps_if (pt_cmpR o_niS (pv 1) pe_str rfl)
 (pss_one (ps_ret pe_bl))
 pss_nil)))
 (pss_one (ps_ret pe_bl)))), ?_⟩
  obtain ⟨Z, ds, zl, q, z, rfl, pre, k⟩ := h
  have hs := in_v zl q
  obtain ⟨_, e_, h2⟩ := hs.argS; clear hs; subst e_; have hs := h2; clear h2
  obtain ⟨e_, h2⟩ := hs.argN; clear hs; subst e_; have hs := h2; clear h2
  tm_at "go"
  · tm_at "finv"
    rw [isName_short (by omega)] at k
    exact k
  · tm_at "finv"
    rw [isName_long (by omega)] at k
    exact k
  · refine u_ixS (by omega) (by omega) (by omega) fun c hc => ?_
    tm_at "run"
    · rename_i h1 h2 hn
      rw [isName_all hc (mem_let.mp hn) (by omega) (by omega)] at k
      refine l_str (fun i σ H' => ∃ v, σ = [some (.str z), v] ∧ H' = H ∧ ∀ x ∈ z.cps.toList.take i, (letC x || digC x) = true) ?_ ?_ ?_
      · exact ⟨none, rfl, rfl, by simp⟩
      · rintro i c2 σ H' hx ⟨v, rfl, rfl, hall⟩
        tm_at "run"
        · rename_i a
          refine ⟨_, rfl, rfl, fun x hx2 => ?_⟩
          rw [_root_.Fr.take_more hx] at hx2
          rcases List.mem_append.mp hx2 with h | h
          · exact hall x h
          · rw [List.mem_singleton.mp h, ← mem_ld]; exact a
        · rename_i a
          tm_at "finv"
          have e : (z.cps.toList.all fun c => letC c || digC c) = false := by
            rw [mem_ld] at a
            rw [List.all_eq_false]
            exact ⟨c2, List.mem_of_getElem? hx, by simpa using a⟩
          rw [e] at k
          exact k
      · rintro σ H' ⟨v, rfl, rfl, hall⟩
        tm_at "run"
        tm_at "finv"
        have e : (z.cps.toList.all fun c => letC c || digC c) = true := List.all_eq_true.mpr (by rw [List.take_length] at hall; exact hall)
        rw [e] at k
        exact k
    · rename_i h1 h2 hn
      tm_at "finv"
      rw [isName_head hc (by rw [mem_let] at hn; simpa using hn)] at k
      exact k
abbrev S_same (n : Nat) : List PyData → (PyData → Prop) → Prop := fun ds φ => ∃ d, ds = [d, d] ∧ (d.depth < n ∧ wid d ≤ 100000) ∧ φ (.bool true)
theorem ok_l_same (T : Txt K mg CPlainBook COddsError CBadShare CBadText CBadBook CBadMove CBadProgram CBadPlan CUnfit CTooLarge CBadEdit) : ∀ n : Nat, Fc P w K mg base CX0 (n + 2) "_law_same" ["told", "due"] (spV K (S_same n)) := by
  intro n
  induction n with
  | zero =>
    refine fc_of T.d_l_same sc_l_same (fun vs H Q E h => by obtain ⟨Z, ds, zl, q, d, rfl, pre, k⟩ := h; have := q.length; rw [this]; rfl) (fun _ _ _ _ _ _ us hl => match us, hl with | [_, _], _ => rfl) fun f cdv A outer s H vs Q E hr h => ?_
    obtain ⟨Z, ds, zl, q, d, rfl, pre, k⟩ := h
    exact absurd pre.1 (Nat.not_lt_zero _)
  | succ n IH => 
    refine fc_of T.d_l_same sc_l_same (fun vs H Q E h => by obtain ⟨Z, ds, zl, q, d, rfl, pre, k⟩ := h; have := q.length; rw [this]; rfl) (fun _ _ _ _ _ _ us hl => match us, hl with | [_, _], _ => rfl) fun f cdv A outer s H vs Q E hr h => ⟨_, (pss_cons (ps_if (pt_cmpR o_isN (pv 1) pe_non (nomark _))
 (pss_one (ps_ret (pe_cmpR o_isN (pv 0) pe_non (nomark _))))
 pss_nil)
 (pss_cons (ps_if (pt_val (pe_callB (isiK K) (by rfl) T.n_isinstance b_isinstance (pa_cons (pv 1) (pa_cons (pe_bltn (v := .ty "bool") (by rfl) T.n_bool b_bool rfl) pa_nil))))
 (pss_one (ps_ret (pe_and (pe_callB (isiK K) (by rfl) T.n_isinstance b_isinstance (pa_cons (pv 0) (pa_cons (pe_bltn (v := .ty "bool") (by rfl) T.n_bool b_bool rfl) pa_nil))) (pe_one (pe_cmpR op_eq (pv 0) (pv 1) (nomark _))))))
 pss_nil)
 (pss_cons (ps_if (pt_val (pe_callB (isiK K) (by rfl) T.n_isinstance b_isinstance (pa_cons (pv 1) (pa_cons (pe_bltn (v := .ty "str") (by rfl) T.n_str b_str rfl) pa_nil))))
 (pss_one (ps_ret (pe_and (pe_callB (isiK K) (by rfl) T.n_isinstance b_isinstance (pa_cons (pv 0) (pa_cons (pe_bltn (v := .ty "str") (by rfl) T.n_str b_str rfl) pa_nil))) (pe_one (pe_cmpR op_eq (pv 0) (pv 1) (nomark _))))))
 pss_nil)
 (pss_cons (ps_if (pt_val (pe_callB (isiK K) (by rfl) T.n_isinstance b_isinstance (pa_cons (pv 1) (pa_cons (pe_bltn (v := .ty "int") (by rfl) T.n_int b_int rfl) pa_nil))))
 (pss_one (ps_ret (pe_and (pe_fc (ok_l_int T) pass0 (hr.mono (by omega)) (pa_cons (pv 0) pa_nil)) (pe_one (pe_cmpR op_eq (pv 0) (pv 1) (nomark _))))))
 pss_nil)
 (pss_cons (ps_if (PW.pt (pw_and (pt_val (pe_callB (isiK K) (by rfl) T.n_isinstance b_isinstance (pa_cons (pv 1) (pa_cons (pe_bltn (v := .ty "tuple") (by rfl) T.n_tuple b_tuple rfl) pa_nil)))) (pw_and1 (pt_not (pt_val (pe_callB (isiK K) (by rfl) T.n_isinstance b_isinstance (pa_cons (pv 0) (pa_cons (pe_bltn (v := .ty "tuple") (by rfl) T.n_tuple b_tuple rfl) pa_nil))))))))
 (pss_one (ps_ret pe_bl))
 pss_nil)
 (pss_cons (ps_if (PW.pt (pw_and (pt_val (pe_callB (isiK K) (by rfl) T.n_isinstance b_isinstance (pa_cons (pv 1) (pa_cons (pe_bltn (v := .ty "list") (by rfl) T.n_list b_list rfl) pa_nil)))) (pw_and1 (pt_not (pt_val (pe_callB (isiK K) (by rfl) T.n_isinstance b_isinstance (pa_cons (pv 0) (pa_cons (pe_bltn (v := .ty "list") (by rfl) T.n_list b_list rfl) pa_nil))))))))
 (pss_one (ps_ret pe_bl))
 pss_nil)
 (pss_cons (ps_if (pt_cmpR op_ne (pe_callB (lenK K) (by rfl) T.n_len b_len (pa_cons (pv 0) pa_nil)) (pe_callB (lenK K) (by rfl) T.n_len b_len (pa_cons (pv 1) pa_nil)) (nomark _))
 (pss_one (ps_ret pe_bl))
 pss_nil)
 (pss_cons (ps_for PassesOwn.never rfl (pi_range1 (by rfl) T.n_range (pa_cons (pe_callB (lenK K) (by rfl) T.n_len b_len (pa_cons (pv 1) pa_nil)) pa_nil)) (pg_name (i := 2) sc_l_same.nd rfl (Or.inl rfl))
 (pss_one (ps_if (pt_not (pt_val (pe_fc IH pass0 (hr.mono (by omega)) (pa_cons (pe_ix (ixAK K) (pv 0) (pv 2) (fun _ _ => rfl)) (pa_cons (pe_ix (ixAK K) (pv 1) (pv 2) (fun _ _ => rfl)) pa_nil)))))
 (pss_one (ps_ret pe_bl))
 pss_nil)))
 (pss_one (ps_ret pe_bl)))))))))), ?_⟩
    obtain ⟨Z, ds, zl, q, d, rfl, pre, k⟩ := h
    have hs := in_v zl q
    obtain ⟨v0, _, e_, h2⟩ := hs.arg; clear hs; subst e_; have hs := h2; clear h2
    obtain ⟨v1, _, e_, h2⟩ := hs.arg; clear hs; subst e_; have hs := h2; clear h2
    obtain ⟨e_, h2⟩ := hs.argN; clear hs; subst e_; have hs := h2; clear h2
    have q0 : Dt K Z H v0 d := hs.dt (by tm_at "mem")
    have q1 : Dt K Z H v1 d := hs.dt (by tm_at "mem")
    cases d with
    | none =>
      rw [q0.non_inv, q1.non_inv] at hs ⊢
      tm_at "go"
      tm_at "finv"
      exact k
    | bool b =>
      rw [q0.bl_inv, q1.bl_inv] at hs ⊢
      tm_at "go"
      rw [decide_eq_true rfl]
      tm_at "finv"
      exact k
    | int b =>
      rw [q0.int_inv, q1.int_inv] at hs ⊢
      tm_at "go"
      rw [decide_eq_true rfl]
      tm_at "finv"
      exact k
    | str b =>
      rw [q0.str_inv, q1.str_inv] at hs ⊢
      tm_at "go"
      rw [decide_eq_true rfl]
      tm_at "finv"
      exact k
    | dict b => cases q0
    | tuple es =>
      obtain ⟨a0, xs0, rfl, t0, p0⟩ := q0.tup_inv
      obtain ⟨a1, xs1, rfl, t1, p1⟩ := q1.tup_inv
      have dd : PyData.depthAll es < n := by have := pre.1; simp only [PyData.depth] at this; omega
      have ww : es.length ≤ 100000 ∧ wids es ≤ 100000 := by have := pre.2; simp only [wid] at this; omega
      tm_at "go"
      · refine l_range (fun i σ H' => ∃ v, σ = [some (.ref a0), some (.ref a1), v] ∧ Hs K ⟨H, [], Z⟩ Z H' [] [([V.ref a1], [PyData.tuple es]), ([V.ref a0], [PyData.tuple es])]) ?_ ?_ ?_
        · exact ⟨none, rfl, hs⟩
        · rintro i σ H' hi ⟨v, rfl, hs1⟩
          have hi : i < es.length := by omega
          have ei : es[i]? = some es[i] := List.getElem?_eq_getElem hi
          have e2 : atI es (0 + (i : Int)) = some es[i] := by rw [Int.zero_add]; exact atI_nat ei
          have d1 := dep_mem ei
          have w1 := wid_mem ei
          tm_at "run"
          refine h_ixA hs1 (.inl (by tm_at "dt")) e2 fun x qx hs2 => ?_
          tm_at "run"
          refine h_ixA hs2 (.inl (by tm_at "dt")) e2 fun y qy hs3 => ?_
          tm_at "run"
          refine ⟨_, rfl, ⟨by omega, by omega⟩, ?_⟩
          tm_at "run"
          exact ⟨_, rfl, by tm_at "wk"⟩
        · rintro σ H' ⟨v, rfl, hs1⟩
          tm_at "run"
          tm_at "finv"
          exact k
      · rename_i hc
        exact absurd rfl hc
    | list es =>
      obtain ⟨a0, xs0, rfl, z0, t0, p0⟩ := q0.lst_inv
      obtain ⟨a1, xs1, rfl, z1, t1, p1⟩ := q1.lst_inv
      have dd : PyData.depthAll es < n := by have := pre.1; simp only [PyData.depth] at this; omega
      have ww : es.length ≤ 100000 ∧ wids es ≤ 100000 := by have := pre.2; simp only [wid] at this; omega
      tm_at "go"
      · refine l_range (fun i σ H' => ∃ v, σ = [some (.ref a0), some (.ref a1), v] ∧ Hs K ⟨H, [], Z⟩ Z H' [] [([V.ref a1], [PyData.list es]), ([V.ref a0], [PyData.list es])]) ?_ ?_ ?_
        · exact ⟨none, rfl, hs⟩
        · rintro i σ H' hi ⟨v, rfl, hs1⟩
          have hi : i < es.length := by omega
          have ei : es[i]? = some es[i] := List.getElem?_eq_getElem hi
          have e2 : atI es (0 + (i : Int)) = some es[i] := by rw [Int.zero_add]; exact atI_nat ei
          have d1 := dep_mem ei
          have w1 := wid_mem ei
          tm_at "run"
          refine h_ixA hs1 (.inr (by tm_at "dt")) e2 fun x qx hs2 => ?_
          tm_at "run"
          refine h_ixA hs2 (.inr (by tm_at "dt")) e2 fun y qy hs3 => ?_
          tm_at "run"
          refine ⟨_, rfl, ⟨by omega, by omega⟩, ?_⟩
          tm_at "run"
          exact ⟨_, rfl, by tm_at "wk"⟩
        · rintro σ H' ⟨v, rfl, hs1⟩
          tm_at "run"
          tm_at "finv"
          exact k
      · rename_i hc
        exact absurd rfl hc


end
end My
set_option Elab.async false
set_option linter.all false
set_option autoImplicit false
set_option maxRecDepth 100000
set_option maxHeartbeats 4000000
namespace My
open PySem PySem.Spec PyProof.Rows L2 U
local macro_rules | `(tactic| tm_at "step") => `(tactic| first | (with_reducible refine br_b ?_ ?_ <;> intro hb_) | fail)

/-! my own steps: rows of tactics, tried from above -/
local macro_rules | `(tactic| tm_at "lk") => `(tactic| first | with_reducible assumption | (with_reducible refine' Kp.get0 ?k1 ?k2; (case k1 => with_reducible assumption); (case k2 => tm_at "lk")) | (with_reducible refine' Kp.get1 ?k1 ?k3 ?k2; (case k1 => with_reducible assumption); (case k3 => tm_at "ne"); (case k2 => tm_at "lk")) | fail)
local macro_rules | `(tactic| tm_at "lp") => `(tactic| first | with_reducible assumption | (with_reducible refine' Pool.kp0 ?k1 ?k2; (case k1 => with_reducible assumption); (case k2 => tm_at "lp")) | (with_reducible refine' Pool.kp1 ?k1 ?k3 ?k2; (case k1 => with_reducible assumption); (case k3 => tm_at "ne"); (case k2 => tm_at "lp")) | fail)
local macro_rules | `(tactic| tm_at "ls") => `(tactic| first | with_reducible assumption | (with_reducible refine' Scr.kp0 ?k1 ?k2; (case k1 => with_reducible assumption); (case k2 => tm_at "ls")) | (with_reducible refine' Scr.kp1 ?k1 ?k3 ?k4 ?k2; (case k1 => with_reducible assumption); (case k3 => with_reducible assumption); (case k4 => tm_at "ls"); (case k2 => tm_at "ls")) | fail)
local macro_rules | `(tactic| tm_at "ne") => `(tactic| first | with_reducible assumption | (with_reducible refine' Ne.symm ?k1; with_reducible assumption) | (with_reducible refine' ne_new ?k1 ?k2; (case k1 => with_reducible assumption); (case k2 => tm_at "lk")) | (with_reducible refine' ne_new' ?k1 ?k2; (case k1 => with_reducible assumption); (case k2 => tm_at "lk")) | (with_reducible refine' Pool.ne ?k1 ?k2; (case k1 => with_reducible assumption); (case k2 => tm_at "lp")) | (with_reducible refine' Ne.symm (Pool.ne ?k1 ?k2); (case k1 => with_reducible assumption); (case k2 => tm_at "lp")) | fail)
local macro_rules | `(tactic| tm_at "kc") => `(tactic| first | with_reducible assumption | with_reducible exact Kp.refl | (with_reducible refine' Kp.trans ?k1 (Kp.of0 ?k2); (case k2 => with_reducible assumption); (case k1 => tm_at "kc")) | (with_reducible refine' Kp.trans ?k1 ?k2; (case k2 => with_reducible assumption); (case k1 => tm_at "kc")) | (with_reducible refine' Kp.low' ?k1 ?k2 ?k3 ?k4; (case k2 => with_reducible assumption); (case k3 => with_reducible assumption); (case k1 => tm_at "kc"); (case k4 => tm_at "kc")) | fail)
local macro_rules | `(tactic| tm_at "sq") => `(tactic| first | (with_reducible refine' sql ?k9; (case k9 => tm_at "lk")) | (with_reducible refine' Scr.sq ?k9; (case k9 => tm_at "ls")) | fail)
local macro_rules | `(tactic| tm_at "sqt") => `(tactic| first | (with_reducible refine' sqt ?k9; (case k9 => tm_at "lk")) | fail)
local macro_rules | `(tactic| tm_at "bt") => `(tactic| first | with_reducible assumption | (with_reducible refine' Bt.mul ?k1 ?k2; (case k1 => tm_at "bt"); (case k2 => tm_at "bt")) | (with_reducible refine' Bt.addM ?k1 ?k2; (case k1 => tm_at "bt"); (case k2 => tm_at "bt")) | (with_reducible refine' Bt.subM ?k1 ?k2; (case k1 => tm_at "bt"); (case k2 => tm_at "bt")) | (with_reducible refine' Bt.neg ?k1; (case k1 => tm_at "bt")) | fail)
local macro_rules | `(tactic| tm_at "bm") => `(tactic| first | with_reducible assumption | (with_reducible refine' Bt.mono ?k1 ?k2; (case k1 => with_reducible assumption); (case k2 => k_dflt decide)) | fail)
local macro_rules | `(tactic| tm_at "side") => `(tactic| first | with_reducible assumption | (with_reducible refine' Bt.cmul ?k1 ?k2 ?k3; (case k1 => tm_at "bt"); (case k2 => tm_at "bt"); (case k3 => k_dflt decide)) | (with_reducible refine cmul_of ?k1; (case k1 => omega)) | (with_reducible refine cpow_of ?k1; (case k1 => omega)) | (with_reducible refine cdivw_of ?k1; (case k1 => omega)) | (with_reducible refine cdivw_big ?k1; (case k1 => omega)) | (with_reducible refine cmulx_of ?k1; (case k1 => omega)) | omega | fail)
local macro_rules | `(tactic| tm_at "step") => `(tactic| first
  | with_reducible refine u_op ?_
  | (with_reducible refine' u_var ?k1 ?_; (case k1 => k_dflt rfl))
  | with_reducible refine u_c ?_
  | with_reducible refine u_I0 ?_
  | with_reducible refine u_seq ?_
  | with_reducible refine u_asg ?_
  | with_reducible refine g_name ?_
  | with_reducible refine u_cb ?_
  | with_reducible refine u_cons ?_
  | with_reducible refine u_nil ?_
  | (with_reducible refine' u_pow ?k1 ?k2 ?_; (case k1 => k_dflt (tm_at "side")); (case k2 => (conv => lhs; simp only [Int.reduceToNat, Int.reducePow]) <;> rfl))
  | (with_reducible refine' u_I ?k1 ?_; (case k1 => k_dflt (tm_at "side")))
  | with_reducible refine u_int1 ?_
  | with_reducible refine u_intB ?_
  | with_reducible refine u_if ?_
  | with_reducible refine u_test ?_
  | with_reducible refine u_tb ?_
  | with_reducible refine u_tB ?_
  | with_reducible refine u_eqI ?_
  | with_reducible refine u_neI ?_
  | with_reducible refine u_eqB ?_
  | with_reducible refine u_and ?_
  | with_reducible refine u_or ?_
  | with_reducible refine u_not ?_
  | with_reducible refine u_andV ?_
  | with_reducible refine u_orV ?_
  | with_reducible refine u_notV ?_
  | with_reducible refine br_t ?_
  | with_reducible refine br_f ?_
  | with_reducible refine br_nt ?_
  | with_reducible refine br_nf ?_
  | with_reducible refine br_n ?_
  | with_reducible refine u_ret ?_
  | with_reducible refine u_next ?_
  | with_reducible refine u_drop ?_
  | with_reducible refine u_un ?_
  | with_reducible refine u_U ?_
  | with_reducible refine u_call ?_
  | with_reducible refine u_fldN ?_
  | with_reducible refine g_sub ?_
  | with_reducible refine g_cons ?_
  | with_reducible refine g_nil ?_
  | with_reducible refine u_tpar ?_
  | (with_reducible refine u_absL ?_; intro m_ h1_ h2_)
  | (with_reducible refine u_maxL ?_; intro m_ h1_ h2_ h3_)
  | (with_reducible refine u_minL ?_; intro m_ h1_ h2_ h3_)
  | with_reducible refine u_gcd ?_
  | with_reducible refine u_isi_ii ?_
  | with_reducible refine u_isi_ib ?_
  | with_reducible refine u_isi_bb ?_
  | with_reducible refine u_tupN ?_
  | with_reducible refine u_lstN ?_
  | (with_reducible refine' u_ixL ?k1 ?k2 ?_; (case k1 => tm_at "sq"); (case k2 => first | with_reducible assumption | k_dflt rfl))
  | (with_reducible refine' u_ixT ?k1 ?k2 ?_; (case k1 => tm_at "sqt"); (case k2 => k_dflt rfl))
  | (with_reducible refine' g_tup ?k1 ?k2 ?_; (case k1 => tm_at "sqt"); (case k2 => k_dflt rfl))
  | (with_reducible refine' u_lenL ?k1 ?_; (case k1 => tm_at "sq"))
  | (with_reducible refine' u_lenT ?k1 ?_; (case k1 => tm_at "sqt"))
  | with_reducible refine u_for ?_
  | with_reducible refine u_iL ?_
  | with_reducible refine u_iT ?_
  | with_reducible refine u_r1 ?_
  | with_reducible refine u_r2 ?_
  | (with_reducible refine' u_iLq ?k1 ?_; (case k1 => tm_at "sq"))
  | (with_reducible refine' u_iTq ?k1 ?_; (case k1 => tm_at "sqt"))
  | (with_reducible refine' u_r1q ?k1 ?_; (case k1 => (constructor <;> omega)))
  | (with_reducible refine' u_r2q ?k1 ?_; (case k1 => (refine ⟨?_, ?_, ?_, ?_⟩ <;> omega)))
  | with_reducible refine u_lc ?_
  | with_reducible refine u_yes ?_
  | (with_reducible refine endQ ?k1 ?_; (case k1 => k_dflt rfl))
  | with_reducible refine u_meth ?_
  | with_reducible refine u_callS ?_
  | with_reducible refine u_bm ?_
  | (with_reducible refine' bm_list ?k1 ?_; (case k1 => tm_at "lk"))
  | (with_reducible refine' u_append ?k1 ?k2 ?_; (case k1 => tm_at "lk"); (case k2 => omega); intro H_ hk_ ho_)
  | (with_reducible refine' appE ?k1 ?k2 ?_; (case k1 => tm_at "lk"); (case k2 => omega); intro H_ hk_ ho_)
  | with_reducible refine u_sl ?_
  | with_reducible refine u_noPart ?_
  | with_reducible refine u_part ?_
  | with_reducible refine u_intq ?_
  | (with_reducible refine' u_slL ?k1 ?_; (case k1 => tm_at "sq"); intro p_ H_ hn_ hk_ ho_)
  | (with_reducible refine' n_tup ?k1 ?_; (case k1 => k_dflt (exact Nat.le_of_ble_eq_true rfl)); intro p_ H_ hn_ hk_ ho_)
  | (with_reducible refine' n_lst ?k1 ?_; (case k1 => k_dflt (exact Nat.le_of_ble_eq_true rfl)); intro p_ H_ hn_ hk_ ho_)
  | (with_reducible refine' s_list ?k1 ?k2 ?_; (case k1 => tm_at "lk"); (case k2 => k_dflt rfl); intro H_ hk_ ho_)
  | (with_reducible refine br_d ?_ ?_ <;> intro hc_) | fail)
local macro_rules | `(tactic| tm_at "run") => `(tactic| repeat' tm_at "step")
local macro_rules | `(tactic| tm_at "go") => `(tactic| ((try dsimp only [cxOf, Cx.nox, Cx.wish]); tm_at "run"))

/-! steps over Hs -/
local macro_rules | `(tactic| tm_at "mem") => `(tactic| first | with_reducible exact List.mem_cons_self | (with_reducible refine' List.mem_cons_of_mem _ ?k1; (case k1 => tm_at "mem")) | fail)
local macro_rules | `(tactic| tm_at "loc") => `(tactic| first | with_reducible exact Loc.here | (with_reducible refine' Loc.there ?k1; (case k1 => tm_at "loc")) | fail)
local macro_rules | `(tactic| tm_at "rem") => `(tactic| first | with_reducible exact Rem.here | (with_reducible refine' Rem.there ?k1; (case k1 => tm_at "rem")) | fail)
local macro_rules | `(tactic| tm_at "suf") => `(tactic| first | with_reducible exact Suf.refl | (with_reducible refine' Suf.keep ?k1; (case k1 => tm_at "suf")) | (with_reducible refine' Suf.cons ?k1; (case k1 => tm_at "suf")) | fail)
local macro_rules | `(tactic| tm_at "wk") => `(tactic| first | with_reducible assumption | (with_reducible refine' Hs.wk ?k1 ?k2 ?k3; (case k1 => with_reducible assumption); (case k2 => tm_at "suf"); (case k3 => tm_at "suf")) | fail)
local macro_rules | `(tactic| tm_at "dt") => `(tactic| first | with_reducible exact Dt.int _ | with_reducible exact Dt.str _ | with_reducible exact Dt.bl _ | with_reducible exact Dt.non | with_reducible assumption | (with_reducible refine' Hs.dt ?k1 ?k2; (case k1 => with_reducible assumption); (case k2 => tm_at "mem")) | (with_reducible refine' Hs.dtup ?k1 ?k2 ?k3; (case k1 => with_reducible assumption); (case k2 => tm_at "loc"); (case k3 => tm_at "dts")) | fail)
local macro_rules | `(tactic| tm_at "dts") => `(tactic| first | with_reducible exact Dts.nil | (with_reducible refine' Dts.cons ?k1 ?k2; (case k1 => tm_at "dt"); (case k2 => tm_at "dts")) | with_reducible assumption | (with_reducible refine' Hs.dts ?k1 ?k2; (case k1 => with_reducible assumption); (case k2 => tm_at "mem")) | fail)
local macro_rules | `(tactic| tm_at "da") => `(tactic| first | (with_reducible refine' Da.imm ?k1; (case k1 => tm_at "dt")) | (with_reducible refine' Hs.dlst ?k1 ?k2; (case k1 => with_reducible assumption); (case k2 => tm_at "loc")) | fail)
local macro_rules | `(tactic| tm_at "lr") => `(tactic| first | with_reducible assumption | (with_reducible refine' Hs.dlv ?k1 ?k2; (case k1 => with_reducible assumption); (case k2 => tm_at "loc")) | (with_reducible refine' Dt.dlv ?k1; (case k1 => tm_at "dt")) | fail)
local macro_rules | `(tactic| tm_at "zs") => `(tactic| first | with_reducible assumption | with_reducible exact List.Subset.refl _ | (with_reducible refine' List.Subset.trans ?k1 ?k2; (case k2 => with_reducible assumption); (case k1 => tm_at "zs")) | (with_reducible refine' List.Subset.trans ?k1 (List.subset_cons_self _ _); (case k1 => tm_at "zs")) | fail)
local macro_rules | `(tactic| tm_at "at") => `(tactic| first | with_reducible assumption | k_dflt rfl | fail)
local macro_rules | `(tactic| tm_at "dep") => `(tactic| first | with_reducible assumption | (with_reducible refine' Nat.le_trans (Nat.min_le_left _ _) ?k1; (case k1 => first | with_reducible assumption | exact Nat.le_of_ble_eq_true rfl)) | (with_reducible refine' Nat.le_trans (Nat.min_le_right _ _) ?k1; (case k1 => first | with_reducible assumption | exact Nat.le_of_ble_eq_true rfl)) | fail)
local macro_rules | `(tactic| tm_at "mono") => `(tactic| (intro φ ψ h s; repeat' (first | exact fun r1 r2 r3 r4 => h _ (s r1 r2 r3 r4) | exact fun r1 r2 r3 => h _ (s r1 r2 r3) | exact fun r1 r2 => h _ (s r1 r2) | exact fun r1 => h _ (s r1) | exact h _ s | (obtain ⟨x, s⟩ := s; refine ⟨x, ?_⟩))))
local macro_rules | `(tactic| tm_at "sz") => `(tactic| first | with_reducible assumption | omega | k_dflt (exact Nat.le_of_ble_eq_true rfl) | (simp only [List.length_map, List.length_append, List.length_cons, List.length_nil]; omega) | fail)
local macro_rules | `(tactic| tm_at "pre") => `(tactic| first | with_reducible assumption | trivial | omega | (refine ⟨?_, ?_⟩ <;> tm_at "pre") | fail)
local macro_rules | `(tactic| tm_at "step") => `(tactic| first
  | (with_reducible refine' h_ixTi ?k1 ?k2 ?_; (case k1 => tm_at "dt"); (case k2 => tm_at "at"))
  | (with_reducible refine' h_ixTs ?k1 ?k2 ?_; (case k1 => tm_at "dt"); (case k2 => tm_at "at"))
  | (with_reducible refine' h_ixTb ?k1 ?k2 ?_; (case k1 => tm_at "dt"); (case k2 => tm_at "at"))
  | (with_reducible refine' h_ixTn ?k1 ?k2 ?_; (case k1 => tm_at "dt"); (case k2 => tm_at "at"))
  | (with_reducible refine' h_ixT ?k0 ?k1 ?k2 ?_; (case k0 => with_reducible assumption); (case k1 => tm_at "dt"); (case k2 => tm_at "at"); intro x_ hd_ hs_)
  | (with_reducible refine' h_ixLi ?k0 ?k1 ?k2 ?_; (case k0 => with_reducible assumption); (case k1 => tm_at "lr"); (case k2 => tm_at "at"))
  | (with_reducible refine' h_ixLs ?k0 ?k1 ?k2 ?_; (case k0 => with_reducible assumption); (case k1 => tm_at "lr"); (case k2 => tm_at "at"))
  | (with_reducible refine' h_ixLb ?k0 ?k1 ?k2 ?_; (case k0 => with_reducible assumption); (case k1 => tm_at "lr"); (case k2 => tm_at "at"))
  | (with_reducible refine' h_ixL ?k0 ?k1 ?k2 ?_; (case k0 => with_reducible assumption); (case k1 => tm_at "lr"); (case k2 => tm_at "at"); intro x_ hd_ hs_)
  | (with_reducible refine' h_gtup ?k1 ?k2 ?_; (case k1 => tm_at "dt"); (case k2 => k_dflt rfl); intro xs_ hq_)
  | (with_reducible refine' h_gci ?k1 ?_; (case k1 => with_reducible assumption); intro xs_ hq_)
  | (with_reducible refine' h_gcs ?k1 ?_; (case k1 => with_reducible assumption); intro xs_ hq_)
  | (with_reducible refine' h_gcb ?k1 ?_; (case k1 => with_reducible assumption); intro xs_ hq_)
  | (with_reducible refine' h_gcn ?k1 ?_; (case k1 => with_reducible assumption); intro xs_ hq_)
  | (with_reducible refine' h_gc ?k0 ?k1 ?_; (case k0 => with_reducible assumption); (case k1 => with_reducible assumption); intro x_ xs_ hq_ hs_)
  | (with_reducible refine' h_gn ?k1 ?_; (case k1 => with_reducible assumption))
  | (with_reducible refine' h_lenL ?k1 ?_; (case k1 => tm_at "lr"))
  | (with_reducible refine' h_lenT ?k1 ?_; (case k1 => tm_at "dt"))
  | (with_reducible refine' h_tup ?k0 ?k1 ?k2 ?_; (case k0 => with_reducible assumption); (case k1 => k_dflt (exact Nat.le_of_ble_eq_true rfl)); (case k2 => tm_at "dts"); intro p_ H_ hs_)
  | (with_reducible refine' h_lst ?k0 ?k1 ?k2 ?_; (case k0 => with_reducible assumption); (case k1 => k_dflt (exact Nat.le_of_ble_eq_true rfl)); (case k2 => tm_at "dts"); intro p_ H_ hs_)
  | (with_reducible refine' h_tupO ?k0 ?k1 ?_; (case k0 => with_reducible assumption); (case k1 => k_dflt (exact Nat.le_of_ble_eq_true rfl)); intro p_ H_ hs_)
  | (with_reducible refine' h_lstO ?k0 ?k1 ?_; (case k0 => with_reducible assumption); (case k1 => k_dflt (exact Nat.le_of_ble_eq_true rfl)); intro p_ H_ hs_)
  | fail)
local macro_rules | `(tactic| tm_at "step") => `(tactic| first
  | (with_reducible refine' h_bmL ?k0 ?k1 ?_; (case k0 => with_reducible assumption); (case k1 => tm_at "loc"))
  | (with_reducible refine' h_app ?k0 ?k1 ?k2 ?k3 ?_; (case k0 => with_reducible assumption); (case k1 => tm_at "loc"); (case k2 => tm_at "dt"); (case k3 => tm_at "sz"); intro H_ hs_)
  | (with_reducible refine' h_setL ?k0 ?k1 ?k2 ?k3 ?_; (case k0 => with_reducible assumption); (case k1 => tm_at "loc"); (case k2 => tm_at "dt"); (case k3 => tm_at "at"); intro H_ hs_)
  | (with_reducible refine' h_slL ?k0 ?k1 ?_; (case k0 => with_reducible assumption); (case k1 => tm_at "lr"); intro p_ H_ hs_)
  | (with_reducible refine' h_sl3 ?k0 ?k1 ?_; (case k0 => with_reducible assumption); (case k1 => tm_at "dt"); intro p_ H_ hs_)
  | (with_reducible refine' h_slf1 ?k0 ?k1 ?_; (case k0 => with_reducible assumption); (case k1 => tm_at "dt"); intro p_ H_ hs_)
  | (with_reducible refine' h_slT ?k0 ?k1 ?_; (case k0 => with_reducible assumption); (case k1 => tm_at "dt"); intro p_ H_ hs_)
  | (with_reducible refine' h_catLe ?k0 ?k1 ?k2 ?k3 ?k4 ?_; (case k0 => with_reducible assumption); (case k1 => tm_at "lr"); (case k2 => tm_at "lr"); (case k3 => tm_at "sz"); (case k4 => ((try simp only [List.cons_append, List.nil_append]); k_dflt rfl)); intro p_ H_ hs_)
  | (with_reducible refine' h_catTe ?k0 ?k1 ?k2 ?k3 ?k4 ?_; (case k0 => with_reducible assumption); (case k1 => tm_at "dt"); (case k2 => tm_at "dt"); (case k3 => tm_at "sz"); (case k4 => ((try simp only [List.cons_append, List.nil_append]); k_dflt rfl)); intro p_ H_ hs_)
  | (with_reducible refine' h_extL ?k0 ?k1 ?k2 ?k3 ?_; (case k0 => with_reducible assumption); (case k1 => tm_at "loc"); (case k2 => tm_at "lr"); (case k3 => tm_at "sz"); intro H_ hs_)
  | (with_reducible refine' h_tupOfL ?k0 ?k1 ?_; (case k0 => with_reducible assumption); (case k1 => tm_at "lr"); intro p_ H_ hs_)
  | (with_reducible refine' h_tupOfT ?k1 ?_; (case k1 => tm_at "dt"))
  | (with_reducible refine' h_listOfL ?k0 ?k1 ?_; (case k0 => with_reducible assumption); (case k1 => tm_at "lr"); intro p_ H_ hs_)
  | (with_reducible refine' h_listOfT ?k0 ?k1 ?_; (case k0 => with_reducible assumption); (case k1 => tm_at "dt"); intro p_ H_ hs_)
  | (with_reducible refine' h_eq ?k1 ?k2 ?k3 ?_; (case k1 => tm_at "da"); (case k2 => tm_at "da"); (case k3 => tm_at "dep"))
  | (with_reducible refine' h_ne ?k1 ?k2 ?k3 ?_; (case k1 => tm_at "da"); (case k2 => tm_at "da"); (case k3 => tm_at "dep"))
  | (with_reducible refine' h_inL ?k1 ?k2 ?k3 ?_; (case k1 => tm_at "dt"); (case k2 => tm_at "da"); (case k3 => tm_at "dep"))
  | (with_reducible refine' h_niL ?k1 ?k2 ?k3 ?_; (case k1 => tm_at "dt"); (case k2 => tm_at "da"); (case k3 => tm_at "dep"))
  | (with_reducible refine' h_inT ?k1 ?k2 ?k3 ?_; (case k1 => tm_at "dt"); (case k2 => tm_at "dt"); (case k3 => tm_at "dep"))
  | (with_reducible refine' h_niT ?k1 ?k2 ?k3 ?_; (case k1 => tm_at "dt"); (case k2 => tm_at "dt"); (case k3 => tm_at "dep"))
  | with_reducible refine u_chain ?_
  | (with_reducible refine' h_min4 ?k1 ?_; (case k1 => tm_at "dt"); intro m_ h1_ h2_ h3_ h4_ h5_)
  | (with_reducible refine' h_iL ?k1 ?_; (case k1 => tm_at "lr"))
  | (with_reducible refine' h_iT ?k1 ?_; (case k1 => tm_at "dt"))
  | (with_reducible refine' lcE ?k1 ?k2 ?k3 ?k4 ?k5 ?_; (case k1 => tm_at "wk"); (case k2 => tm_at "zs"); (case k3 => omega); (case k4 => omega); (case k5 => tm_at "dt"))
  | (with_reducible refine' lcS ?k1 ?k2 ?k3 ?_; (case k1 => tm_at "wk"); (case k2 => tm_at "zs"); (case k3 => omega))
  | with_reducible refine u_iA ?_
  | (with_reducible refine' f_repG ?k1 ?k2 ?k3 ?_; (case k1 => omega); (case k2 => omega); (case k3 => omega); intro z_ hz_)
  | (with_reducible refine' k_vA ?k0 ?k1 ?k2 ?_; (case k0 => with_reducible assumption); (case k1 => tm_at "dts"); (case k2 => tm_at "mono"))
  | (with_reducible refine' k_wA ?k0 ?k1 ?k2 ?k3 ?_; (case k0 => with_reducible assumption); (case k1 => tm_at "loc"); (case k2 => tm_at "dts"); (case k3 => tm_at "mono"))
  | (with_reducible refine' k_vlA ?k0 ?k1 ?k2 ?_; (case k0 => with_reducible assumption); (case k1 => tm_at "dts"); (case k2 => tm_at "mono"))
  | (with_reducible refine' k_wlA ?k0 ?k1 ?k2 ?k3 ?_; (case k0 => with_reducible assumption); (case k1 => tm_at "loc"); (case k2 => tm_at "dts"); (case k3 => tm_at "mono"))
  | (with_reducible refine ret_int ?_; intro H_ hs_)
  | (with_reducible refine ret_str ?_; intro H_ hs_)
  | (with_reducible refine ret_bl ?_; intro H_ hs_)
  | (with_reducible refine ret_non ?_; intro H_ hs_)
  | (with_reducible refine ret_any ?_; intro v_ Z_ H_ hz_ hs_)
  | (with_reducible refine retL ?_; intro p_ Z_ H_ hz_ hs_)
  | fail)
local macro_rules | `(tactic| tm_at "step") => `(tactic| first
  | with_reducible refine u_isNi ?_
  | with_reducible refine u_isNb ?_
  | with_reducible refine u_isNs ?_
  | with_reducible refine u_isi (.base (.str _)) kB_sb ?_
  | with_reducible refine u_isi (.base (.str _)) kB_ss ?_
  | with_reducible refine u_isi (.base (.str _)) kB_si ?_
  | with_reducible refine u_isi (.base (.bl _)) kB_bs ?_
  | with_reducible refine u_isi (.base (.bl _)) kB_bi ?_
  | with_reducible refine u_isi (.base (.int _)) kB_is ?_
  | (with_reducible refine' u_isi (ty_tup ?k1) kB_tt ?_; (case k1 => tm_at "dt"))
  | (with_reducible refine' u_isi (ty_tup ?k1) kB_tl ?_; (case k1 => tm_at "dt"))
  | (with_reducible refine' u_isi (ty_tup ?k1) kB_tb ?_; (case k1 => tm_at "dt"))
  | (with_reducible refine' u_isi (ty_tup ?k1) kB_ts ?_; (case k1 => tm_at "dt"))
  | (with_reducible refine' u_isi (ty_tup ?k1) kB_ti ?_; (case k1 => tm_at "dt"))
  | (with_reducible refine' u_isi (ty_lst ?k1) kB_lt ?_; (case k1 => tm_at "lr"))
  | (with_reducible refine' u_isi (ty_lst ?k1) kB_ll ?_; (case k1 => tm_at "lr"))
  | (with_reducible refine' u_isi (ty_lst ?k1) kB_lb ?_; (case k1 => tm_at "lr"))
  | (with_reducible refine' u_isi (ty_lst ?k1) kB_ls ?_; (case k1 => tm_at "lr"))
  | (with_reducible refine' u_isi (ty_lst ?k1) kB_li ?_; (case k1 => tm_at "lr"))
  | fail)
local macro_rules | `(tactic| tm_at "anyi") => `(tactic| (intro d hd; simp only [List.mem_cons, List.not_mem_nil, or_false] at hd; repeat' (rcases hd with rfl | hd); all_goals (first | exact ⟨_, rfl⟩ | (subst hd; exact ⟨_, rfl⟩))))
local macro_rules | `(tactic| tm_at "len") => `(tactic| (simp only [List.length_cons, List.length_nil, List.length_map, List.length_append]; omega))
local macro_rules | `(tactic| tm_at "step") => `(tactic| first
  | with_reducible refine u_dget2 ?_
  | with_reducible refine u_dput ?_
  | (with_reducible refine' h_dnewT ?k0 ?_; (case k0 => with_reducible assumption); intro p_ H_ hs_)
  | (with_reducible refine' h_dgA ?k0 ?k1 ?_; (case k0 => with_reducible assumption); (case k1 => tm_at "loc"))
  | fail)
local macro_rules | `(tactic| tm_at "finv") => `(tactic| (with_reducible refine' fin_v ?k1 ?k2 ?_; (case k1 => with_reducible assumption); (case k2 => tm_at "dt")))
local macro_rules | `(tactic| tm_at "finw") => `(tactic| (with_reducible refine' fin_w ?k1 ?k2 ?k3 ?_; (case k1 => with_reducible assumption); (case k2 => tm_at "loc"); (case k3 => tm_at "dt")))
local macro_rules | `(tactic| tm_at "finvl") => `(tactic| (with_reducible refine' fin_vl ?k1 ?k2 ?_; (case k1 => with_reducible assumption); (case k2 => tm_at "loc")))

local macro_rules | `(tactic| tm_at "step") => `(tactic| first | (with_reducible refine' k_draw ?k1 ?k2 ?_; (case k1 => tm_at "lp"); (case k2 => k_dflt omega); intro r_ H_ h0_ h1_ hk_ hp_) | fail)
local macro_rules | `(tactic| tm_at "step") => `(tactic| first | with_reducible refine k_int ?_ | fail)
local macro_rules | `(tactic| tm_at "step") => `(tactic| first | (with_reducible refine' k_pool ?k1 ?k2 ?_; (case k1 => tm_at "ls"); (case k2 => k_dflt (tm_at "side")); intro p_ H_ hn_ hk_ hp_) | fail)
local macro_rules | `(tactic| tm_at "step") => `(tactic| first | (with_reducible refine' h_draw ?k0 ?k1 ?k2 ?_; (case k0 => with_reducible assumption); (case k1 => tm_at "loc"); (case k2 => k_dflt omega); intro r_ H_ h0_ h1_ hs_) | fail)
local macro_rules | `(tactic| tm_at "ln") => `(tactic| first | with_reducible assumption | omega | (simp only [SX.S_len, Str.length_append]; omega) | fail)
local macro_rules | `(tactic| tm_at "lg") => `(tactic| first | with_reducible assumption | (with_reducible refine' bt_log ?k1; (case k1 => tm_at "bm")) | fail)
local macro_rules | `(tactic| tm_at "step") => `(tactic| first
  | with_reducible refine u_eqS ?_
  | with_reducible refine u_neS ?_
  | with_reducible refine bm_str ?_
  | with_reducible refine u_bm0 ?_
  | with_reducible refine u_find ?_
  | with_reducible refine u_asc ?_
  | with_reducible refine u_dgt ?_
  | with_reducible refine u_inS ?_
  | with_reducible refine u_niS ?_
  | with_reducible refine u_isNn ?_
  | with_reducible refine u_isNr ?_
  | (with_reducible refine' u_partS ?k1 ?k2 ?_; (case k1 => k_dflt rfl); (case k2 => tm_at "ln"); intro p_ H_ hn_ hk_ ho_)
  | (with_reducible refine' u_rmp ?k1 ?_; (case k1 => tm_at "ln"))
  | (with_reducible refine' u_addS ?k1 ?_; (case k1 => tm_at "ln"))
  | (with_reducible refine' u_lenS ?k1 ?_; (case k1 => tm_at "ln"))
  | (with_reducible refine' u_strI ?k1 ?_; (case k1 => tm_at "lg"))
  | (with_reducible refine' u_slX ?k1 ?_; (case k1 => tm_at "ln"))
  | with_reducible refine u_iS ?_
  | with_reducible refine u_iSq ?_
  | with_reducible refine u_join ?_
  | with_reducible refine js_cons ?_
  | with_reducible refine js_nil ?_
  | (with_reducible refine' jsQ ?k1 ?_; (case k1 => tm_at "ln"))
  | with_reducible refine u_fmt ?_
  | (with_reducible refine' fmtI ?k1 ?_; (case k1 => tm_at "lg"))
  | fail)
/-! texts of which only the length is kept -/
theorem f_add {a b : Str} {H : Hp} {Q : VK} (h : a.length + b.length ≤ 100000) (k : ∀ z, Str.length z = a.length + b.length → Q (.str z) H) : rAddS (.str a) (.str b) H Q := u_addS h (k _ (Str.length_append a b))
theorem f_sl {a : Str} {lo hi : Option Int} {H : Hp} {Q : VK} (h : a.length ≤ 100000) (k : ∀ z, Str.length z ≤ a.length → Q (.str z) H) : C8.rSlX (.str a) lo hi H Q := u_slX h (k _ (PyProof.Txt.length_slice_le a lo hi))
theorem f_ix {a : Str} {i : Int} {H : Hp} {Q : VK} (ha : a.length ≤ 100000) (h0 : 0 ≤ i) (h1 : i < a.length) (k : ∀ c, Str.length ⟨#[c]⟩ = 1 → Q (.str ⟨#[c]⟩) H) : rIxS (.str a) (.int i) H Q := u_ixS ha h0 h1 fun c _ => k c rfl
theorem bt_log {i : Int} (h : Bt 1900 i) : i.natAbs.log2 < 1920 := by
  by_cases z : i.natAbs = 0
  · rw [z]; decide
  · exact Nat.lt_of_lt_of_le ((Nat.log2_lt z).mpr h) (by decide)
theorem iL_len {i : Int} (h : Bt 1900 i) : (Tx.iL i).length ≤ 601 := by
  have z : i.natAbs < 10 ^ 600 := Nat.lt_of_lt_of_le h (by decide +kernel)
  have q := TL.numL_len (by decide : 0 < 600) z
  unfold Tx.iL
  split
  · rw [List.length_cons]; omega
  · omega
theorem f_strI {i : Int} {H : Hp} {Q : VK} (h : Bt 1900 i) (k : ∀ z, Str.length z ≤ 601 → Q (.str z) H) : rStrI [.int i] H Q := u_strI (bt_log h) (k _ (by rw [Tx.str_int, SX.S_len]; exact iL_len h))
theorem f_rep {c : Nat} {i : Int} {H : Hp} {Q : VK} (h0 : 0 ≤ i) (h1 : i ≤ 10000) (k : ∀ z, (Str.length z : Int) = i → Q (.str z) H) : rRepS (.str ⟨#[c]⟩) (.int i) H Q := u_repS (by omega) (by omega) (k _ (by
  have e := PyProof.Rows.len_mul_k1 (x := ⟨#[c]⟩) (n := i) rfl
  rw [e, if_neg (by omega)]; omega))
local macro_rules | `(tactic| tm_at "step") => `(tactic| first
  | (with_reducible refine' f_add ?k1 ?_; (case k1 => omega); intro z_ hz_)
  | (with_reducible refine' f_sl ?k1 ?_; (case k1 => omega); intro z_ hz_)
  | (with_reducible refine' f_ix ?k1 ?k2 ?k3 ?_; (case k1 => omega); (case k2 => omega); (case k3 => omega); intro c_ hz_)
  | (with_reducible refine' f_strI ?k1 ?_; (case k1 => tm_at "bm"); intro z_ hz_)
  | (with_reducible refine' f_rep ?k1 ?k2 ?_; (case k1 => omega); (case k2 => omega); intro z_ hz_)
  | fail)
theorem f_repE {x : Str} {c : Nat} {i : Int} {H : Hp} {Q : VK} (e : x = ⟨#[c]⟩) (h0 : 0 ≤ i) (h1 : i ≤ 10000) (k : ∀ z, (Str.length z : Int) = i → Q (.str z) H) : rRepS (.str x) (.int i) H Q := by
  subst e
  exact f_rep h0 h1 k
local macro_rules | `(tactic| tm_at "step") => `(tactic| first | (with_reducible refine' f_repE ?k0 ?k1 ?k2 ?_; (case k0 => with_reducible assumption); (case k1 => omega); (case k2 => omega); intro z_ hz_) | fail)
local macro_rules | `(tactic| tm_at "step") => `(tactic| first | (with_reducible refine' f_upp ?k1 ?_; (case k1 => omega); intro z_ hz_) | fail)

local macro_rules | `(tactic| tm_at "step") => `(tactic| first | (with_reducible refine' sp_is_name ?k1 ?_; (case k1 => tm_at "pre")) | fail)
local macro_rules | `(tactic| tm_at "step") => `(tactic| first | (with_reducible refine' sp_l_is_name ?k1 ?_; (case k1 => tm_at "pre")) | fail)
/-! books -/
structure Ch where
  nm : Str
  h : Int
  a : Int
  t : Int
  r : Int
  deriving DecidableEq
abbrev eCh (c : Ch) : PyData := .tuple [.str c.nm, .int c.h, .int c.a, .int c.t, .int c.r]
abbrev eBk (s f : Int) (cs : List Ch) : PyData := .tuple [.int s, .int f, .list (cs.map eCh)]
def Sml (n : Nat) (cs : List Ch) : Prop := cs.length ≤ n ∧ ∀ c ∈ cs, c.nm.length ≤ 300
theorem Sml.app {n m : Nat} {a b : List Ch} (h : Sml n a) (h' : Sml m b) : Sml (n + m) (a ++ b) := by
  refine ⟨by rw [List.length_append]; have := h.1; have := h'.1; omega, fun c hc => ?_⟩
  rcases List.mem_append.mp hc with z | z
  · exact h.2 c z
  · exact h'.2 c z
theorem Sml.mono {n m : Nat} {a : List Ch} (h : Sml n a) (l : n ≤ m) : Sml m a := ⟨Nat.le_trans h.1 l, h.2⟩
theorem Sml.one {c : Ch} (h : c.nm.length ≤ 300) : Sml 1 [c] := ⟨Nat.le_refl _, fun x hx => by rw [List.mem_singleton.mp hx]; exact h⟩
theorem Sml.nil : Sml 0 [] := ⟨Nat.le_refl _, fun x hx => by cases hx⟩
theorem Sml.sub {n : Nat} {a b : List Ch} (h : Sml n a) (l : b.length ≤ a.length) (s : ∀ x ∈ b, x ∈ a) : Sml n b := ⟨Nat.le_trans l h.1, fun c hc => h.2 c (s c hc)⟩
theorem at_map {α : Type} {f : α → PyData} {l : List α} {i : Nat} {d : PyData} (h : (l.map f)[i]? = some d) : ∃ x, l[i]? = some x ∧ d = f x := by
  rw [List.getElem?_map] at h
  cases e : l[i]? with
  | none => rw [e] at h; cases h
  | some x => rw [e] at h; exact ⟨x, rfl, (Option.some.inj h).symm⟩
theorem dep_chs (cs : List Ch) : PyData.depthAll (cs.map eCh) ≤ 60 := Nat.le_trans (dep_map eCh 1 (fun _ => Nat.le_refl _) cs) (by decide)
abbrev S_l_name : List PyData → (PyData → Prop) → Prop := fun ds φ => ds = [] ∧ (∀ (z : Str), (1 ≤ z.length ∧ z.length ≤ 20) → φ (.str z))
theorem sp_l_name {φ : PyData → Prop}  (k_ : ∀ (z : Str), (1 ≤ z.length ∧ z.length ≤ 20) → φ (.str z)) : S_l_name [] φ := ⟨rfl, k_⟩
local macro_rules | `(tactic| tm_at "step") => `(tactic| first | (with_reducible refine sp_l_name ?_; intro z_ hr_) | fail)
abbrev S_l_names : List PyData → (List PyData → Prop) → Prop := fun ds φ => ds = [] ∧ (∀ (zs : List Str), (1 ≤ zs.length ∧ zs.length ≤ 3 ∧ ∀ z ∈ zs, z.length ≤ 60) → φ (zs.map PyData.str))
theorem sp_l_names {φ : List PyData → Prop}  (k_ : ∀ (zs : List Str), (1 ≤ zs.length ∧ zs.length ≤ 3 ∧ ∀ z ∈ zs, z.length ≤ 60) → φ (zs.map PyData.str)) : S_l_names [] φ := ⟨rfl, k_⟩
local macro_rules | `(tactic| tm_at "step") => `(tactic| first | (with_reducible refine sp_l_names ?_; intro zs_ hr_) | fail)
abbrev S_l_odd_name : List PyData → (PyData → Prop) → Prop := fun ds φ => ∃ (x : Str), ds = [.str x] ∧ (x.length ≤ 60) ∧ (∀ (z : Str), (z.length ≤ 300) → φ (.str z))
theorem sp_l_odd_name {φ : PyData → Prop} {x : Str} (p_ : x.length ≤ 60) (k_ : ∀ (z : Str), (z.length ≤ 300) → φ (.str z)) : S_l_odd_name [.str x] φ := ⟨x, rfl, p_, k_⟩
local macro_rules | `(tactic| tm_at "step") => `(tactic| first | (with_reducible refine' sp_l_odd_name ?k1 ?_; (case k1 => tm_at "pre"); intro z_ hr_) | fail)
abbrev S_l_book : List PyData → (PyData → Prop) → Prop := fun ds φ => ds = [] ∧ (∀ (s f : Int) (cs : List Ch), ((1 ≤ s ∧ s ≤ 600) ∧ Sml 12 cs ∧ ∀ c ∈ cs, c.nm.length ≤ 60) → φ (eBk s f cs))
theorem sp_l_book {φ : PyData → Prop}  (k_ : ∀ (s f : Int) (cs : List Ch), ((1 ≤ s ∧ s ≤ 600) ∧ Sml 12 cs ∧ ∀ c ∈ cs, c.nm.length ≤ 60) → φ (eBk s f cs)) : S_l_book [] φ := ⟨rfl, k_⟩
local macro_rules | `(tactic| tm_at "step") => `(tactic| first | (with_reducible refine sp_l_book ?_; intro s_ f_ cs_ hr_) | fail)
abbrev S_l_more_options : List PyData → (PyData → Prop) → Prop := fun ds φ => ∃ (s : Int), ∃ (cs : List Ch), ∃ (n : Int), ds = [.int s, .list (cs.map eCh), .int n] ∧ ((1 ≤ s ∧ s ≤ 600) ∧ Sml 12 cs ∧ (0 ≤ n ∧ n < cs.length)) ∧ (∀ (cs2 : List Ch), (Sml 30 cs2) → φ (.list (cs2.map eCh)))
theorem sp_l_more_options {φ : PyData → Prop} {s : Int} {cs : List Ch} {n : Int} (p_ : (1 ≤ s ∧ s ≤ 600) ∧ Sml 12 cs ∧ (0 ≤ n ∧ n < cs.length)) (k_ : ∀ (cs2 : List Ch), (Sml 30 cs2) → φ (.list (cs2.map eCh))) : S_l_more_options [.int s, .list (cs.map eCh), .int n] φ := ⟨s, cs, n, rfl, p_, k_⟩
local macro_rules | `(tactic| tm_at "step") => `(tactic| first | (with_reducible refine' sp_l_more_options ?k1 ?_; (case k1 => tm_at "pre"); intro cs2_ hr_) | fail)
abbrev S_l_bent : List PyData → (PyData → Prop) → Prop := fun ds φ => ∃ (s f : Int), ∃ (cs : List Ch), ds = [eBk s f cs] ∧ ((1 ≤ s ∧ s ≤ 600) ∧ Sml 12 cs ∧ ∀ c ∈ cs, c.nm.length ≤ 60) ∧ (∀ (s2 f2 : Int) (cs2 : List Ch), (Sml 30 cs2) → φ (eBk s2 f2 cs2))
theorem sp_l_bent {φ : PyData → Prop} {s f : Int} {cs : List Ch} (p_ : (1 ≤ s ∧ s ≤ 600) ∧ Sml 12 cs ∧ ∀ c ∈ cs, c.nm.length ≤ 60) (k_ : ∀ (s2 f2 : Int) (cs2 : List Ch), (Sml 30 cs2) → φ (eBk s2 f2 cs2)) : S_l_bent [eBk s f cs] φ := ⟨s, f, cs, rfl, p_, k_⟩
local macro_rules | `(tactic| tm_at "step") => `(tactic| first | (with_reducible refine' sp_l_bent ?k1 ?_; (case k1 => tm_at "pre"); intro s2_ f2_ cs2_ hr_) | fail)

section
variable {P : Program} {w : World} {K : PySem.W.Frag} {mg : Str → Option Value} {base : Heap} {CPlainBook COddsError CBadShare CBadText CBadBook CBadMove CBadProgram CBadPlan CUnfit CTooLarge CBadEdit : Addr}
theorem ok_l_name (T : Txt K mg CPlainBook COddsError CBadShare CBadText CBadBook CBadMove CBadProgram CBadPlan CUnfit CTooLarge CBadEdit) : Fc P w K mg base CX0 2 "_law_name" ["pool"] (spW K S_l_name) := by
  refine fc_of T.d_l_name sc_l_name (fun vs H Q E h => by obtain ⟨a, us, Z, ds, rfl, hp, na, zl, q, rfl, k⟩ := h; have := q.length; rw [List.length_cons, this]; rfl) (fun _ _ _ _ _ _ us hl => match us, hl with | [_], _ => rfl) fun f cdv A outer s H vs Q E hr h => ⟨_, (pss_cons (ps_set (i := 1) sc_l_name.nd rfl (Or.inl rfl) pe_str)
 (pss_cons (ps_set (i := 2) sc_l_name.nd rfl (Or.inl rfl) (pe_op op_add pe_int (pe_fc (ok_l_draw T) pass0 (hr.mono (by omega)) (pa_cons (pv 0) (pa_cons pe_int pa_nil)))))
 (pss_cons (ps_if (pt_cmpR op_eq (pe_fc (ok_l_draw T) pass0 (hr.mono (by omega)) (pa_cons (pv 0) (pa_cons pe_int pa_nil))) pe_int (nomark _))
 (pss_one (ps_set (i := 2) sc_l_name.nd rfl (Or.inl rfl) (pe_op op_add pe_int (pe_fc (ok_l_draw T) pass0 (hr.mono (by omega)) (pa_cons (pv 0) (pa_cons pe_int pa_nil))))))
 pss_nil)
 (pss_cons (ps_set (i := 3) sc_l_name.nd rfl (Or.inl rfl) (pe_ix ix_str (pv 1) (pe_fc (ok_l_draw T) pass0 (hr.mono (by omega)) (pa_cons (pv 0) (pa_cons pe_int pa_nil))) (fun _ _ => rfl)))
 (pss_cons (ps_for PassesOwn.never rfl (pi_range1 (by rfl) T.n_range (pa_cons (pe_op op_sub (pv 2) pe_int) pa_nil)) (pg_name (i := 4) sc_l_name.nd rfl (Or.inl rfl))
 (pss_one (ps_set (i := 3) sc_l_name.nd rfl (Or.inl rfl) (pe_op o_addS (pv 3) (pe_ix ix_str (pv 1) (pe_fc (ok_l_draw T) pass0 (hr.mono (by omega)) (pa_cons (pv 0) (pa_cons pe_int pa_nil))) (fun _ _ => rfl))))))
 (pss_one (ps_ret (pv 3)))))))), ?_⟩
  obtain ⟨a, us, Z, ds, rfl, hp, na, zl, q, rfl, k⟩ := h
  have hs := in_w hp na zl q
  obtain ⟨e_, h2⟩ := hs.argN; clear hs; subst e_; have hs := h2; clear h2
  have lsg : (Str.ofString "abcdefghijklmnopqrstuvwxyz0123456789").length = 36 := by decide +kernel
  have e : ∀ (n : Int) (sg : Str) (sz : Int) (c : Str) (H1 : Hp), 0 ≤ sz → sz ≤ 19 → n = sz → c.length = 1 → sg.length = 36 → Hs K ⟨H, [a], Z⟩ Z H1 [.pool a] [] →
      LoopQ (Itr 0 n.toNat) (gName 4) (tAsg (tOp rAddS (tVar 3) (tOp rIxS (tVar 1) (tCall spDraw [] E0 (tCons (tVar 0) (tCons (tC (V.int 36)) tNil))))) (gName 3))
        { nx := tRet (tVar 3) { nx := fun x H' => Q V.non H', rt := Q }, rt := Q } [some (.ref a), some (.str sg), some (.int (1 + sz)), some (.str c), none] H1 := by
    intro n sg sz c H1 s0 s1 en hc hg hs1
    subst en
    refine l_range (fun i σ H' => ∃ (z : Str) (v : Option V), σ = [some (.ref a), some (.str sg), some (.int (1 + n)), some (.str z), v] ∧ z.length = i + 1 ∧ Hs K ⟨H, [a], Z⟩ Z H' [.pool a] []) ?_ ?_ ?_
    · exact ⟨c, none, rfl, by omega, hs1⟩
    · rintro i σ H2 hi ⟨z, v, rfl, hz, hs2⟩
      tm_at "run"
      exact ⟨_, _, rfl, by omega, by tm_at "wk"⟩
    · rintro σ H2 ⟨z, v, rfl, hz, hs2⟩
      tm_at "run"
      tm_at "finw"
      exact k _ ⟨by omega, by omega⟩
  tm_at "go"
  · exact e _ _ _ _ _ (by omega) (by omega) (by omega) (by assumption) lsg (by assumption)
  · exact e _ _ _ _ _ (by omega) (by omega) (by omega) (by assumption) lsg (by assumption)
theorem ok_l_names (T : Txt K mg CPlainBook COddsError CBadShare CBadText CBadBook CBadMove CBadProgram CBadPlan CUnfit CTooLarge CBadEdit) : Fc P w K mg base CX0 3 "_law_names" ["pool"] (spWL K S_l_names) := by
  refine fc_of T.d_l_names sc_l_names (fun vs H Q E h => by obtain ⟨a, us, Z, ds, rfl, hp, na, zl, q, rfl, k⟩ := h; have := q.length; rw [List.length_cons, this]; rfl) (fun _ _ _ _ _ _ us hl => match us, hl with | [_], _ => rfl) fun f cdv A outer s H vs Q E hr h => ⟨_, (pss_cons (ps_set (i := 1) sc_l_names.nd rfl (Or.inl rfl) (pe_lst (pa_cons (pe_fc (ok_l_name T) pass0 (hr.mono (by omega)) (pa_cons (pv 0) pa_nil)) pa_nil)))
 (pss_cons (ps_for PassesOwn.never rfl (pi_range1 (by rfl) T.n_range (pa_cons (pe_fc (ok_l_draw T) pass0 (hr.mono (by omega)) (pa_cons (pv 0) (pa_cons pe_int pa_nil))) pa_nil)) (pg_name (i := 2) sc_l_names.nd rfl (Or.inl rfl))
 (pss_cons (ps_set (i := 3) sc_l_names.nd rfl (Or.inl rfl) (pe_fc (ok_l_name T) pass0 (hr.mono (by omega)) (pa_cons (pv 0) pa_nil)))
 (pss_cons (ps_if (pt_cmpR op_eq (pe_fc (ok_l_draw T) pass0 (hr.mono (by omega)) (pa_cons (pv 0) (pa_cons pe_int pa_nil))) pe_int (nomark _))
 (pss_cons (ps_set (i := 4) sc_l_names.nd rfl (Or.inl rfl) (pe_fc (ok_l_draw T) pass0 (hr.mono (by omega)) (pa_cons (pv 0) (pa_cons (pe_callB c_lenS (by rfl) T.n_len b_len (pa_cons (pe_ix (ixlK K) (pv 1) pe_int (fun _ _ => rfl)) pa_nil)) pa_nil))))
 (pss_one (ps_set (i := 3) sc_l_names.nd rfl (Or.inl rfl) (pe_op o_addS (pe_op o_addS (pe_slice C8.sl_txt (pe_ix (ixlK K) (pv 1) pe_int (fun _ _ => rfl)) po_none (po_some (pv 4))) (pe_slice C8.sl_txt (pv 3) po_none (po_some pe_int))) (pe_slice C8.sl_txt (pe_ix (ixlK K) (pv 1) pe_int (fun _ _ => rfl)) (po_some (pe_op op_add (pv 4) pe_int)) po_none)))))
 pss_nil)
 (pss_one (ps_expr (pe_bm PySem.F.plainAttrs_list PySem.F.slot_list_append PySem.F.type_list_append mt_append (pv 1) (pa_cons (pv 3) pa_nil)))))))
 (pss_one (ps_ret (pv 1))))), ?_⟩
  obtain ⟨a, us, Z, ds, rfl, hp, na, zl, q, rfl, k⟩ := h
  have hs := in_w hp na zl q
  obtain ⟨e_, h2⟩ := hs.argN; clear hs; subst e_; have hs := h2; clear h2
  tm_at "go"
  rename_i z0 hz0 H1 hs1 p H2 hs2 r H3 r0 r1 hs3
  refine l_range (fun i σ H' => ∃ (zs : List Str) (u v w : Option V), σ = [some (.ref a), some (.ref p), u, v, w] ∧ (1 ≤ zs.length ∧ zs.length = i + 1 ∧ ∀ z ∈ zs, z.length ≤ 60) ∧ (∃ z r, zs = z :: r ∧ z.length ≤ 20) ∧ Hs K ⟨H, [a], Z⟩ Z H' [.dl K p (zs.map PyData.str) true, .pool a] []) ?_ ?_ ?_
  · exact ⟨[z0], none, none, none, rfl, ⟨by simp, by simp, fun z hz => by rw [List.mem_singleton.mp hz]; omega⟩, ⟨z0, [], rfl, hz0.2⟩, hs3⟩
  · rintro i σ H4 hi ⟨zs, u, v, w, rfl, hzs, ⟨z1, r1, rfl, hz1⟩, hs4⟩
    have e0 : atI ((z1 :: r1).map PyData.str) ((0 : Nat) : Int) = some (.str z1) := atI_nat rfl
    have e0 : atI ((z1 :: r1).map PyData.str) 0 = some (.str z1) := e0
    have lz : ((z1 :: r1).map PyData.str).length < 100000 := by rw [List.length_map]; omega
    have fin : ∀ (z : Str), z.length ≤ 60 → (1 ≤ (z1 :: r1 ++ [z]).length ∧ (z1 :: r1 ++ [z]).length = i + 1 + 1 ∧ ∀ x ∈ z1 :: r1 ++ [z], x.length ≤ 60) ∧ (∃ x r, z1 :: r1 ++ [z] = x :: r ∧ x.length ≤ 20) := fun z hz => by
      refine ⟨⟨by simp, by rw [List.length_append, List.length_singleton, hzs.2.1], fun x hx => ?_⟩, z1, r1 ++ [z], rfl, hz1⟩
      rcases List.mem_append.mp hx with y | y
      · exact hzs.2.2 x y
      · rw [List.mem_singleton.mp y]; exact hz
    tm_at "run"
    · rename_i zf hzf Hf hsf
      exact ⟨z1 :: r1 ++ [zf], _, _, _, rfl, (fin zf (by omega)).1, (fin zf (by omega)).2, by rw [List.map_append]; exact hsf⟩
    · rename_i zf hzf _ _ _ _ _ _ _ _ _ hsf
      exact ⟨z1 :: r1 ++ [zf], _, _, _, rfl, (fin zf (by omega)).1, (fin zf (by omega)).2, by rw [List.map_append]; exact hsf⟩
  · rintro σ H4 ⟨zs, u, v, w, rfl, hzs, _, hs4⟩
    tm_at "run"
    exact fin_wl hs4 .here (.there .here) (k zs ⟨hzs.1, by omega, hzs.2.2⟩)
theorem ok_l_odd_name (T : Txt K mg CPlainBook COddsError CBadShare CBadText CBadBook CBadMove CBadProgram CBadPlan CUnfit CTooLarge CBadEdit) : Fc P w K mg base CX0 2 "_law_odd_name" ["pool", "name"] (spW K S_l_odd_name) := by
  refine fc_of T.d_l_odd_name sc_l_odd_name (fun vs H Q E h => by obtain ⟨a, us, Z, ds, rfl, hp, na, zl, q, x, rfl, pre, k⟩ := h; have := q.length; rw [List.length_cons, this]; rfl) (fun _ _ _ _ _ _ us hl => match us, hl with | [_, _], _ => rfl) fun f cdv A outer s H vs Q E hr h => ⟨_, (pss_cons (ps_set (i := 2) sc_l_odd_name.nd rfl (Or.inl rfl) (pe_fc (ok_l_draw T) pass0 (hr.mono (by omega)) (pa_cons (pv 0) (pa_cons (pe_op op_add (pe_callB c_lenS (by rfl) T.n_len b_len (pa_cons (pv 1) pa_nil)) pe_int) pa_nil))))
 (pss_cons (ps_set (i := 3) sc_l_odd_name.nd rfl (Or.inl rfl) pe_str)
 (pss_cons (ps_set (i := 3) sc_l_odd_name.nd rfl (Or.inl rfl) (pe_op o_addS (pv 3) pe_str))
 (pss_cons (ps_set (i := 4) sc_l_odd_name.nd rfl (Or.inl rfl) (pe_ix ix_str (pv 3) (pe_fc (ok_l_draw T) pass0 (hr.mono (by omega)) (pa_cons (pv 0) (pa_cons pe_int pa_nil))) (fun _ _ => rfl)))
 (pss_cons (ps_set (i := 5) sc_l_odd_name.nd rfl (Or.inl rfl) (pe_op op_add pe_int (pe_callB (c_min2 rfl) (by rfl) T.n_min b_min (pa_cons pe_int (pa_cons (pe_fc (ok_l_draw T) pass0 (hr.mono (by omega)) (pa_cons (pv 0) (pa_cons pe_int pa_nil))) pa_nil)))))
 (pss_cons (ps_set (i := 6) sc_l_odd_name.nd rfl (Or.inl rfl) (pe_lst (pa_cons pe_str (pa_cons (pe_slice C8.sl_txt (pe_op o_addS (pv 1) (pe_op o_repG pe_str pe_int)) po_none (po_some (pv 5))) (pa_cons (pe_slice C8.sl_txt (pe_op o_addS (pv 1) (pe_op o_repG pe_str pe_int)) po_none (po_some (pv 5))) (pa_cons (pe_op o_addS pe_str (pv 1)) (pa_cons (pe_op o_addS (pv 1) pe_str) pa_nil)))))))
 (pss_cons (ps_set (i := 6) sc_l_odd_name.nd rfl (Or.inl rfl) (pe_op o_catL (pv 6) (pe_lst (pa_cons (pe_op o_addS (pe_slice C8.sl_txt (pv 1) po_none (po_some (pv 2))) (pe_bm0 PySem.F.plainAttrs_str PySem.F.slot_str_upper PySem.F.type_str_upper m_upper (pe_slice C8.sl_txt (pv 1) (po_some (pv 2)) po_none))) (pa_cons (pe_op o_addS (pe_op o_addS (pe_slice C8.sl_txt (pv 1) po_none (po_some (pv 2))) (pv 4)) (pe_slice C8.sl_txt (pv 1) (po_some (pv 2)) po_none)) pa_nil)))))
 (pss_cons (ps_expr (pe_bm PySem.F.plainAttrs_list PySem.F.slot_list_append PySem.F.type_list_append mt_append (pv 6) (pa_cons (pe_op o_addS (pe_op o_addS (pe_slice C8.sl_txt (pv 1) po_none (po_some (pv 2))) (pv 4)) (pe_slice C8.sl_txt (pv 1) (po_some (pe_op op_add (pv 2) pe_int)) po_none)) pa_nil)))
 (pss_one (ps_ret (pe_ix (ixlK K) (pv 6) (pe_fc (ok_l_draw T) pass0 (hr.mono (by omega)) (pa_cons (pv 0) (pa_cons pe_int pa_nil))) (fun _ _ => rfl)))))))))))), ?_⟩
  obtain ⟨a, us, Z, ds, rfl, hp, na, zl, q, x, rfl, pre, k⟩ := h
  have hs := in_w hp na zl q
  obtain ⟨_, e_, h2⟩ := hs.argS; clear hs; subst e_; have hs := h2; clear h2
  obtain ⟨e_, h2⟩ := hs.argN; clear hs; subst e_; have hs := h2; clear h2
  have c_0 : (Str.ofString " !\"#$&'()*+,-./0123456789:;<=>?@ABCDEFGHIJKLMNOPQRSTUVWXYZ[\\]^_`").length = 64 := by decide +kernel
  have c_1 : (Str.ofString "abcdefghijklmnopqrstuvwxyz{|}~\n\t").length = 32 := by decide +kernel
  have c_2 : (Str.ofString "").length = 0 := by decide +kernel
  have c_3 : (Str.ofString "7").length = 1 := by decide +kernel
  have c_4 : (Str.ofString "_").length = 1 := by decide +kernel
  have c_5 : (Str.ofString "a").length = 1 := by decide +kernel
  have c_6 : (Str.ofString "z9").length = 2 := by decide +kernel
  tm_at "go"
  refine h_ixLz (N := 300) (by assumption) (by tm_at "lr") (by omega) ?_ ?_ fun z hz => ?_
  · simp only [List.length_append, List.length_cons, List.length_nil]; omega
  · intro d hd
    simp only [List.cons_append, List.nil_append, List.mem_cons, List.not_mem_nil, or_false] at hd
    rcases hd with rfl | rfl | rfl | rfl | rfl | rfl | rfl | rfl
    all_goals exact ⟨_, rfl, by omega⟩
  · tm_at "finw"
    exact k z hz
theorem ok_l_book (T : Txt K mg CPlainBook COddsError CBadShare CBadText CBadBook CBadMove CBadProgram CBadPlan CUnfit CTooLarge CBadEdit) : Fc P w K mg base CX0 4 "_law_book" ["pool"] (spW K S_l_book) := by
  refine fc_of T.d_l_book sc_l_book (fun vs H Q E h => by obtain ⟨a, us, Z, ds, rfl, hp, na, zl, q, rfl, k⟩ := h; have := q.length; rw [List.length_cons, this]; rfl) (fun _ _ _ _ _ _ us hl => match us, hl with | [_], _ => rfl) fun f cdv A outer s H vs Q E hr h => ⟨_, (pss_cons (ps_set (i := 1) sc_l_book.nd rfl (Or.inl rfl) (pe_fc (ok_l_names T) pass0 (hr.mono (by omega)) (pa_cons (pv 0) pa_nil)))
 (pss_cons (ps_set (i := 2) sc_l_book.nd rfl (Or.inl rfl) (pe_op op_add pe_int (pe_fc (ok_l_draw T) pass0 (hr.mono (by omega)) (pa_cons (pv 0) (pa_cons pe_int pa_nil)))))
 (C8.pss_cut (ps_if (pt_cmpR op_eq (pe_fc (ok_l_draw T) pass0 (hr.mono (by omega)) (pa_cons (pv 0) (pa_cons pe_int pa_nil))) pe_int (nomark _))
 (pss_one (ps_set (i := 2) sc_l_book.nd rfl (Or.inl rfl) (pe_ix (ixlK K) (pe_lst (pa_cons pe_int (pa_cons pe_int (pa_cons pe_int pa_nil)))) (pe_fc (ok_l_draw T) pass0 (hr.mono (by omega)) (pa_cons (pv 0) (pa_cons pe_int pa_nil))) (fun _ _ => rfl))))
 pss_nil)
 (pss_cons (ps_set (i := 3) sc_l_book.nd rfl (Or.inl rfl) (pe_ix (ixlK K) (pe_lst (pa_cons pe_int (pa_cons pe_int (pa_cons pe_int pa_nil)))) (pe_fc (ok_l_draw T) pass0 (hr.mono (by omega)) (pa_cons (pv 0) (pa_cons pe_int pa_nil))) (fun _ _ => rfl)))
 (pss_cons (ps_set (i := 4) sc_l_book.nd rfl (Or.inl rfl) (pe_ix (ixlK K) (pe_lst (pa_cons pe_int (pa_cons pe_int (pa_cons (pv 2) pa_nil)))) (pe_fc (ok_l_draw T) pass0 (hr.mono (by omega)) (pa_cons (pv 0) (pa_cons pe_int pa_nil))) (fun _ _ => rfl)))
 (pss_cons (ps_set (i := 5) sc_l_book.nd rfl (Or.inl rfl) (pe_cmpR op_gt (pe_fc (ok_l_draw T) pass0 (hr.mono (by omega)) (pa_cons (pv 0) (pa_cons pe_int pa_nil))) pe_int (nomark _)))
 (pss_cons (ps_set (i := 6) sc_l_book.nd rfl (Or.inl rfl) (pe_fc (ok_l_draw T) pass0 (hr.mono (by omega)) (pa_cons (pv 0) (pa_cons (pv 2) pa_nil))))
 (pss_cons (ps_set (i := 7) sc_l_book.nd rfl (Or.inl rfl) (pe_lst pa_nil))
 (pss_cons (ps_for PassesOwn.never rfl (pi_range1 (by rfl) T.n_range (pa_cons (pe_fc (ok_l_draw T) pass0 (hr.mono (by omega)) (pa_cons (pv 0) (pa_cons pe_int pa_nil))) pa_nil)) (pg_name (i := 8) sc_l_book.nd rfl (Or.inl rfl))
 (pss_cons (ps_set (i := 9) sc_l_book.nd rfl (Or.inl rfl) (pe_op op_sub (pe_op op_sub (pv 2) pe_int) (pe_fc (ok_l_draw T) pass0 (hr.mono (by omega)) (pa_cons (pv 0) (pa_cons (pe_callB (c_min2 rfl) (by rfl) T.n_min b_min (pa_cons (pv 4) (pa_cons (pv 2) pa_nil))) pa_nil)))))
 (pss_cons (ps_set (i := 10) sc_l_book.nd rfl (Or.inl rfl) (pe_ix (ixlK K) (pv 1) (pe_fc (ok_l_draw T) pass0 (hr.mono (by omega)) (pa_cons (pv 0) (pa_cons (pe_callB (lenK K) (by rfl) T.n_len b_len (pa_cons (pv 1) pa_nil)) pa_nil))) (fun _ _ => rfl)))
 (pss_cons (ps_set (i := 11) sc_l_book.nd rfl (Or.inr rfl) (pe_tup (pa_cons (pv 10) (pa_cons (pv 9) (pa_cons (pe_op op_sub pe_int (pe_fc (ok_l_draw T) pass0 (hr.mono (by omega)) (pa_cons (pv 0) (pa_cons (pv 3) pa_nil)))) (pa_cons (pe_fc (ok_l_draw T) pass0 (hr.mono (by omega)) (pa_cons (pv 0) (pa_cons (pv 2) pa_nil))) (pa_cons (pe_fc (ok_l_draw T) pass0 (hr.mono (by omega)) (pa_cons (pv 0) (pa_cons pe_int pa_nil))) pa_nil)))))))
 (pss_cons (ps_setLc (i := 12) (own := [("c", 13)]) (g := (gName 13)) rfl sc_l_book.nd rfl rfl (sw_true rfl rfl rfl (by decide +kernel)) (piLK K (pv 7)) (blkOk_by (own := [("c", 13)]) (N := ["pool", "names", "states", "spread", "near", "tame", "first", "choices", "k", "home", "name", "choice", "alike", "c"]) (sc := defScope s_l_book) (by decide +kernel)) (fun _ _ _ _ _ => (pg_name (i := 13) sc_l_book.nd rfl (Or.inl rfl))) (fun _ _ _ _ _ => (pts_one (pt_cmpR (eqAK K hr.units) (pe_slice (sltAK K) (pv 13) po_none (po_some pe_int)) (pe_slice (sltAK K) (pv 11) po_none (po_some pe_int)) (nomark _)))) (fun _ _ _ _ _ => (pv 13)))
 (pss_one (ps_if (PW.pt (pw_or (pt_not (pt_val (pv 5))) (pw_or1 (PW.pt (pw_and (pt_cmpR (niAK K hr.units) (pv 11) (pv 7) rfl) (pw_and1 (pt_cmpR op_lt (pe_callB (lenK K) (by rfl) T.n_len b_len (pa_cons (pv 12) pa_nil)) pe_int (nomark _))))))))
 (pss_one (ps_expr (pe_bm PySem.F.plainAttrs_list PySem.F.slot_list_append PySem.F.type_list_append mt_append (pv 7) (pa_cons (pv 11) pa_nil))))
 pss_nil)))))))
 (pss_one (ps_ret (pe_tup (pa_cons (pv 2) (pa_cons (pv 6) (pa_cons (pv 7) pa_nil))))))))))))))), ?_⟩
  obtain ⟨a, us, Z, ds, rfl, hp, na, zl, q, rfl, k⟩ := h
  have hs := in_w hp na zl q
  obtain ⟨e_, h2⟩ := hs.argN; clear hs; subst e_; have hs := h2; clear h2
  have hin1 : ∀ (x : Int), 1 ≤ x → x ≤ 600 → ∀ d ∈ [PyData.int 1, PyData.int 2, PyData.int x], ∃ z : Int, d = .int z ∧ 1 ≤ z ∧ z ≤ 600 := fun x h1 h2 d hd => by
    simp only [List.mem_cons, List.not_mem_nil, or_false] at hd
    rcases hd with rfl | rfl | rfl <;> exact ⟨_, rfl, by omega, by omega⟩
  have hin2 : ∀ d ∈ [PyData.int 600, PyData.int 599, PyData.int 128], ∃ z : Int, d = .int z ∧ 1 ≤ z ∧ z ≤ 600 := fun d hd => by
    simp only [List.mem_cons, List.not_mem_nil, or_false] at hd
    rcases hd with rfl | rfl | rfl <;> exact ⟨_, rfl, by omega, by omega⟩
  tm_at "go"
  rename_i zs hzs p Z1 H1 hz1 hs1 r H2 r0 r1 hs2
  refine u_cut (fun σ H' => ∃ (s : Int), σ = [some (.ref a), some (.ref p), some (.int s), none, none, none, none, none, none, none, none, none, none, none] ∧ (1 ≤ s ∧ s ≤ 600) ∧ Hs K ⟨H, [a], Z⟩ Z1 H' [.dl K p (zs.map PyData.str) true, .pool a] []) ?_ ?_
  · tm_at "run"
    · refine h_ixLn (lo := 1) (hi := 600) (by assumption) (by tm_at "lr") (by omega) (by simp only [List.length_cons, List.length_nil]; omega) hin2 fun z z0 z1 => ?_
      tm_at "run"
      exact ⟨_, rfl, ⟨by omega, by omega⟩, by tm_at "wk"⟩
    · exact ⟨_, rfl, ⟨by omega, by omega⟩, by tm_at "wk"⟩
  rintro σ H3 ⟨s, rfl, hst, hs3⟩
  tm_at "run"
  refine h_ixLn (lo := 1) (hi := 600) (by assumption) (by tm_at "lr") (by omega) (by simp only [List.length_cons, List.length_nil]; omega) (hin1 8 (by omega) (by omega)) fun z2 z20 z21 => ?_
  tm_at "run"
  refine h_ixLn (lo := 1) (hi := 600) (by assumption) (by tm_at "lr") (by omega) (by simp only [List.length_cons, List.length_nil]; omega) (hin1 s (by omega) (by omega)) fun z3 z30 z31 => ?_
  tm_at "run"
  rename_i q H5 hs5 n H6 n0 n1 hs6
  have hs7 : Hs K ⟨H, [a], Z⟩ Z1 H6 [.dl K q [] true, .dl K p (zs.map PyData.str) true, .pool a] [] := by tm_at "wk"
  clear hs5 hs6 hs3 hs1 hs2
  refine l_range (fun i σ H' => ∃ (cs : List Ch) (f : Int) (tm : Bool) (u1 u2 u3 u4 u5 u6 : Option V) (Z2 : List Addr), σ = [some (.ref a), some (.ref p), some (.int s), some (.int z2), some (.int z3), some (.bl tm), some (.int f), some (.ref q), u1, u2, u3, u4, u5, u6] ∧ (cs.length ≤ i ∧ ∀ c ∈ cs, c.nm.length ≤ 60) ∧ Hs K ⟨H, [a], Z⟩ Z2 H' [.dl K q (cs.map eCh) true, .dl K p (zs.map PyData.str) true, .pool a] []) ?_ ?_ ?_
  · exact ⟨[], _, _, none, none, none, none, none, none, _, rfl, ⟨Nat.le_refl _, fun c hc => by cases hc⟩, hs7⟩
  · rintro i σ H8 hi ⟨cs, f, tm, u1, u2, u3, u4, u5, u6, Z2, rfl, hcs, hs8⟩
    have lz : (zs.map PyData.str).length = zs.length := List.length_map _
    have ha : ∀ d ∈ zs.map PyData.str, ∃ z : Str, d = .str z ∧ z.length ≤ 60 := fun d hd => by
      obtain ⟨z, hz, rfl⟩ := List.mem_map.mp hd
      exact ⟨z, rfl, hzs.2.2 z hz⟩
    have lc : (cs.map eCh).length < 100000 := by rw [List.length_map]; omega
    tm_at "run"
    rename_i m _ _ _ r0 _ _ _ _ r00 _ _ _ _
    refine h_ixLz (by assumption) (by tm_at "lr") (by omega) (by omega) ha fun nm hnm => ?_
    tm_at "run"
    rename_i r1 _ _ _ _ r2 _ _ _ _ r3 _ _ _ _ pc _ _
    refine h_lcL (cs.map eCh) (fun _ _ => True) (by assumption) (fun D acc Z' H' h => by tm_at "lr") trivial (fun D i2 d x acc Z3 H9 hd _ hacc hz hs9 => ?_) (fun D acc Z3 H9 _ hacc hz hs9 => ?_)
    · have hi2 : i2 < 100000 := by have := (List.getElem?_eq_some_iff.mp hd).1; omega
      obtain ⟨c, hc, rfl⟩ := at_map hd
      tm_at "run"
      all_goals trivial
    · tm_at "run"
      all_goals first
        | exact ⟨cs, _, _, _, _, _, _, _, _, _, rfl, ⟨by omega, hcs.2⟩, by tm_at "wk"⟩
        | exact ⟨cs ++ [⟨nm, s - 1 - r0, 7 - r1, r2, r3⟩], _, _, _, _, _, _, _, _, _, rfl, ⟨by rw [List.length_append, List.length_singleton]; omega, fun c hc => by
            rcases List.mem_append.mp hc with y | y
            · exact hcs.2 c y
            · rw [List.mem_singleton.mp y]; exact hnm⟩, by rw [map_snoc]; tm_at "wk"⟩
  · rintro σ H8 ⟨cs, f, tm, u1, u2, u3, u4, u5, u6, Z2, rfl, hcs, hs8⟩
    have hs9 := hs8.freeze .here
    tm_at "run"
    tm_at "finw"
    exact k s f cs ⟨hst, ⟨by omega, fun c hc => by have := hcs.2 c hc; omega⟩, hcs.2⟩

end
end My
set_option Elab.async false
set_option linter.all false
set_option autoImplicit false
set_option maxRecDepth 100000
set_option maxHeartbeats 4000000
namespace My
open PySem PySem.Spec PyProof.Rows L2 U
local macro_rules | `(tactic| tm_at "step") => `(tactic| first | (with_reducible refine br_b ?_ ?_ <;> intro hb_) | fail)

/-! my own steps: rows of tactics, tried from above -/
local macro_rules | `(tactic| tm_at "lk") => `(tactic| first | with_reducible assumption | (with_reducible refine' Kp.get0 ?k1 ?k2; (case k1 => with_reducible assumption); (case k2 => tm_at "lk")) | (with_reducible refine' Kp.get1 ?k1 ?k3 ?k2; (case k1 => with_reducible assumption); (case k3 => tm_at "ne"); (case k2 => tm_at "lk")) | fail)
local macro_rules | `(tactic| tm_at "lp") => `(tactic| first | with_reducible assumption | (with_reducible refine' Pool.kp0 ?k1 ?k2; (case k1 => with_reducible assumption); (case k2 => tm_at "lp")) | (with_reducible refine' Pool.kp1 ?k1 ?k3 ?k2; (case k1 => with_reducible assumption); (case k3 => tm_at "ne"); (case k2 => tm_at "lp")) | fail)
local macro_rules | `(tactic| tm_at "ls") => `(tactic| first | with_reducible assumption | (with_reducible refine' Scr.kp0 ?k1 ?k2; (case k1 => with_reducible assumption); (case k2 => tm_at "ls")) | (with_reducible refine' Scr.kp1 ?k1 ?k3 ?k4 ?k2; (case k1 => with_reducible assumption); (case k3 => with_reducible assumption); (case k4 => tm_at "ls"); (case k2 => tm_at "ls")) | fail)
local macro_rules | `(tactic| tm_at "ne") => `(tactic| first | with_reducible assumption | (with_reducible refine' Ne.symm ?k1; with_reducible assumption) | (with_reducible refine' ne_new ?k1 ?k2; (case k1 => with_reducible assumption); (case k2 => tm_at "lk")) | (with_reducible refine' ne_new' ?k1 ?k2; (case k1 => with_reducible assumption); (case k2 => tm_at "lk")) | (with_reducible refine' Pool.ne ?k1 ?k2; (case k1 => with_reducible assumption); (case k2 => tm_at "lp")) | (with_reducible refine' Ne.symm (Pool.ne ?k1 ?k2); (case k1 => with_reducible assumption); (case k2 => tm_at "lp")) | fail)
local macro_rules | `(tactic| tm_at "kc") => `(tactic| first | with_reducible assumption | with_reducible exact Kp.refl | (with_reducible refine' Kp.trans ?k1 (Kp.of0 ?k2); (case k2 => with_reducible assumption); (case k1 => tm_at "kc")) | (with_reducible refine' Kp.trans ?k1 ?k2; (case k2 => with_reducible assumption); (case k1 => tm_at "kc")) | (with_reducible refine' Kp.low' ?k1 ?k2 ?k3 ?k4; (case k2 => with_reducible assumption); (case k3 => with_reducible assumption); (case k1 => tm_at "kc"); (case k4 => tm_at "kc")) | fail)
local macro_rules | `(tactic| tm_at "sq") => `(tactic| first | (with_reducible refine' sql ?k9; (case k9 => tm_at "lk")) | (with_reducible refine' Scr.sq ?k9; (case k9 => tm_at "ls")) | fail)
local macro_rules | `(tactic| tm_at "sqt") => `(tactic| first | (with_reducible refine' sqt ?k9; (case k9 => tm_at "lk")) | fail)
local macro_rules | `(tactic| tm_at "bt") => `(tactic| first | with_reducible assumption | (with_reducible refine' Bt.mul ?k1 ?k2; (case k1 => tm_at "bt"); (case k2 => tm_at "bt")) | (with_reducible refine' Bt.addM ?k1 ?k2; (case k1 => tm_at "bt"); (case k2 => tm_at "bt")) | (with_reducible refine' Bt.subM ?k1 ?k2; (case k1 => tm_at "bt"); (case k2 => tm_at "bt")) | (with_reducible refine' Bt.neg ?k1; (case k1 => tm_at "bt")) | fail)
local macro_rules | `(tactic| tm_at "bm") => `(tactic| first | with_reducible assumption | (with_reducible refine' Bt.mono ?k1 ?k2; (case k1 => with_reducible assumption); (case k2 => k_dflt decide)) | fail)
local macro_rules | `(tactic| tm_at "side") => `(tactic| first | with_reducible assumption | (with_reducible refine' Bt.cmul ?k1 ?k2 ?k3; (case k1 => tm_at "bt"); (case k2 => tm_at "bt"); (case k3 => k_dflt decide)) | (with_reducible refine cmul_of ?k1; (case k1 => omega)) | (with_reducible refine cpow_of ?k1; (case k1 => omega)) | (with_reducible refine cdivw_of ?k1; (case k1 => omega)) | (with_reducible refine cdivw_big ?k1; (case k1 => omega)) | (with_reducible refine cmulx_of ?k1; (case k1 => omega)) | omega | fail)
local macro_rules | `(tactic| tm_at "step") => `(tactic| first
  | with_reducible refine u_op ?_
  | (with_reducible refine' u_var ?k1 ?_; (case k1 => k_dflt rfl))
  | with_reducible refine u_c ?_
  | with_reducible refine u_I0 ?_
  | with_reducible refine u_seq ?_
  | with_reducible refine u_asg ?_
  | with_reducible refine g_name ?_
  | with_reducible refine u_cb ?_
  | with_reducible refine u_cons ?_
  | with_reducible refine u_nil ?_
  | (with_reducible refine' u_pow ?k1 ?k2 ?_; (case k1 => k_dflt (tm_at "side")); (case k2 => (conv => lhs; simp only [Int.reduceToNat, Int.reducePow]) <;> rfl))
  | (with_reducible refine' u_I ?k1 ?_; (case k1 => k_dflt (tm_at "side")))
  | with_reducible refine u_int1 ?_
  | with_reducible refine u_intB ?_
  | with_reducible refine u_if ?_
  | with_reducible refine u_test ?_
  | with_reducible refine u_tb ?_
  | with_reducible refine u_tB ?_
  | with_reducible refine u_eqI ?_
  | with_reducible refine u_neI ?_
  | with_reducible refine u_eqB ?_
  | with_reducible refine u_and ?_
  | with_reducible refine u_or ?_
  | with_reducible refine u_not ?_
  | with_reducible refine u_andV ?_
  | with_reducible refine u_orV ?_
  | with_reducible refine u_notV ?_
  | with_reducible refine br_t ?_
  | with_reducible refine br_f ?_
  | with_reducible refine br_nt ?_
  | with_reducible refine br_nf ?_
  | with_reducible refine br_n ?_
  | with_reducible refine u_ret ?_
  | with_reducible refine u_next ?_
  | with_reducible refine u_drop ?_
  | with_reducible refine u_un ?_
  | with_reducible refine u_U ?_
  | with_reducible refine u_call ?_
  | with_reducible refine u_fldN ?_
  | with_reducible refine g_sub ?_
  | with_reducible refine g_cons ?_
  | with_reducible refine g_nil ?_
  | with_reducible refine u_tpar ?_
  | (with_reducible refine u_absL ?_; intro m_ h1_ h2_)
  | (with_reducible refine u_maxL ?_; intro m_ h1_ h2_ h3_)
  | (with_reducible refine u_minL ?_; intro m_ h1_ h2_ h3_)
  | with_reducible refine u_gcd ?_
  | with_reducible refine u_isi_ii ?_
  | with_reducible refine u_isi_ib ?_
  | with_reducible refine u_isi_bb ?_
  | with_reducible refine u_tupN ?_
  | with_reducible refine u_lstN ?_
  | (with_reducible refine' u_ixL ?k1 ?k2 ?_; (case k1 => tm_at "sq"); (case k2 => first | with_reducible assumption | k_dflt rfl))
  | (with_reducible refine' u_ixT ?k1 ?k2 ?_; (case k1 => tm_at "sqt"); (case k2 => k_dflt rfl))
  | (with_reducible refine' g_tup ?k1 ?k2 ?_; (case k1 => tm_at "sqt"); (case k2 => k_dflt rfl))
  | (with_reducible refine' u_lenL ?k1 ?_; (case k1 => tm_at "sq"))
  | (with_reducible refine' u_lenT ?k1 ?_; (case k1 => tm_at "sqt"))
  | with_reducible refine u_for ?_
  | with_reducible refine u_iL ?_
  | with_reducible refine u_iT ?_
  | with_reducible refine u_r1 ?_
  | with_reducible refine u_r2 ?_
  | (with_reducible refine' u_iLq ?k1 ?_; (case k1 => tm_at "sq"))
  | (with_reducible refine' u_iTq ?k1 ?_; (case k1 => tm_at "sqt"))
  | (with_reducible refine' u_r1q ?k1 ?_; (case k1 => (constructor <;> omega)))
  | (with_reducible refine' u_r2q ?k1 ?_; (case k1 => (refine ⟨?_, ?_, ?_, ?_⟩ <;> omega)))
  | with_reducible refine u_lc ?_
  | with_reducible refine u_yes ?_
  | (with_reducible refine endQ ?k1 ?_; (case k1 => k_dflt rfl))
  | with_reducible refine u_meth ?_
  | with_reducible refine u_callS ?_
  | with_reducible refine u_bm ?_
  | (with_reducible refine' bm_list ?k1 ?_; (case k1 => tm_at "lk"))
  | (with_reducible refine' u_append ?k1 ?k2 ?_; (case k1 => tm_at "lk"); (case k2 => omega); intro H_ hk_ ho_)
  | (with_reducible refine' appE ?k1 ?k2 ?_; (case k1 => tm_at "lk"); (case k2 => omega); intro H_ hk_ ho_)
  | with_reducible refine u_sl ?_
  | with_reducible refine u_noPart ?_
  | with_reducible refine u_part ?_
  | with_reducible refine u_intq ?_
  | (with_reducible refine' u_slL ?k1 ?_; (case k1 => tm_at "sq"); intro p_ H_ hn_ hk_ ho_)
  | (with_reducible refine' n_tup ?k1 ?_; (case k1 => k_dflt (exact Nat.le_of_ble_eq_true rfl)); intro p_ H_ hn_ hk_ ho_)
  | (with_reducible refine' n_lst ?k1 ?_; (case k1 => k_dflt (exact Nat.le_of_ble_eq_true rfl)); intro p_ H_ hn_ hk_ ho_)
  | (with_reducible refine' s_list ?k1 ?k2 ?_; (case k1 => tm_at "lk"); (case k2 => k_dflt rfl); intro H_ hk_ ho_)
  | (with_reducible refine br_d ?_ ?_ <;> intro hc_) | fail)
local macro_rules | `(tactic| tm_at "run") => `(tactic| repeat' tm_at "step")
local macro_rules | `(tactic| tm_at "go") => `(tactic| ((try dsimp only [cxOf, Cx.nox, Cx.wish]); tm_at "run"))

/-! steps over Hs -/
local macro_rules | `(tactic| tm_at "mem") => `(tactic| first | with_reducible exact List.mem_cons_self | (with_reducible refine' List.mem_cons_of_mem _ ?k1; (case k1 => tm_at "mem")) | fail)
local macro_rules | `(tactic| tm_at "loc") => `(tactic| first | with_reducible exact Loc.here | (with_reducible refine' Loc.there ?k1; (case k1 => tm_at "loc")) | fail)
local macro_rules | `(tactic| tm_at "rem") => `(tactic| first | with_reducible exact Rem.here | (with_reducible refine' Rem.there ?k1; (case k1 => tm_at "rem")) | fail)
local macro_rules | `(tactic| tm_at "suf") => `(tactic| first | with_reducible exact Suf.refl | (with_reducible refine' Suf.keep ?k1; (case k1 => tm_at "suf")) | (with_reducible refine' Suf.cons ?k1; (case k1 => tm_at "suf")) | fail)
local macro_rules | `(tactic| tm_at "wk") => `(tactic| first | with_reducible assumption | (with_reducible refine' Hs.wk ?k1 ?k2 ?k3; (case k1 => with_reducible assumption); (case k2 => tm_at "suf"); (case k3 => tm_at "suf")) | fail)
local macro_rules | `(tactic| tm_at "dt") => `(tactic| first | with_reducible exact Dt.int _ | with_reducible exact Dt.str _ | with_reducible exact Dt.bl _ | with_reducible exact Dt.non | with_reducible assumption | (with_reducible refine' Hs.dt ?k1 ?k2; (case k1 => with_reducible assumption); (case k2 => tm_at "mem")) | (with_reducible refine' Hs.dtup ?k1 ?k2 ?k3; (case k1 => with_reducible assumption); (case k2 => tm_at "loc"); (case k3 => tm_at "dts")) | fail)
local macro_rules | `(tactic| tm_at "dts") => `(tactic| first | with_reducible exact Dts.nil | (with_reducible refine' Dts.cons ?k1 ?k2; (case k1 => tm_at "dt"); (case k2 => tm_at "dts")) | with_reducible assumption | (with_reducible refine' Hs.dts ?k1 ?k2; (case k1 => with_reducible assumption); (case k2 => tm_at "mem")) | fail)
local macro_rules | `(tactic| tm_at "da") => `(tactic| first | (with_reducible refine' Da.imm ?k1; (case k1 => tm_at "dt")) | (with_reducible refine' Hs.dlst ?k1 ?k2; (case k1 => with_reducible assumption); (case k2 => tm_at "loc")) | fail)
local macro_rules | `(tactic| tm_at "lr") => `(tactic| first | with_reducible assumption | (with_reducible refine' Hs.dlv ?k1 ?k2; (case k1 => with_reducible assumption); (case k2 => tm_at "loc")) | (with_reducible refine' Dt.dlv ?k1; (case k1 => tm_at "dt")) | fail)
local macro_rules | `(tactic| tm_at "zs") => `(tactic| first | with_reducible assumption | with_reducible exact List.Subset.refl _ | (with_reducible refine' List.Subset.trans ?k1 ?k2; (case k2 => with_reducible assumption); (case k1 => tm_at "zs")) | (with_reducible refine' List.Subset.trans ?k1 (List.subset_cons_self _ _); (case k1 => tm_at "zs")) | fail)
local macro_rules | `(tactic| tm_at "at") => `(tactic| first | with_reducible assumption | k_dflt rfl | fail)
local macro_rules | `(tactic| tm_at "dep") => `(tactic| first | with_reducible assumption | (with_reducible refine' Nat.le_trans (Nat.min_le_left _ _) ?k1; (case k1 => first | with_reducible assumption | exact Nat.le_of_ble_eq_true rfl)) | (with_reducible refine' Nat.le_trans (Nat.min_le_right _ _) ?k1; (case k1 => first | with_reducible assumption | exact Nat.le_of_ble_eq_true rfl)) | fail)
local macro_rules | `(tactic| tm_at "mono") => `(tactic| (intro φ ψ h s; repeat' (first | exact fun r1 r2 r3 r4 => h _ (s r1 r2 r3 r4) | exact fun r1 r2 r3 => h _ (s r1 r2 r3) | exact fun r1 r2 => h _ (s r1 r2) | exact fun r1 => h _ (s r1) | exact h _ s | (obtain ⟨x, s⟩ := s; refine ⟨x, ?_⟩))))
local macro_rules | `(tactic| tm_at "sz") => `(tactic| first | with_reducible assumption | omega | k_dflt (exact Nat.le_of_ble_eq_true rfl) | (simp only [List.length_map, List.length_append, List.length_cons, List.length_nil]; omega) | fail)
local macro_rules | `(tactic| tm_at "pre") => `(tactic| first | with_reducible assumption | trivial | omega | (refine ⟨?_, ?_⟩ <;> tm_at "pre") | fail)
local macro_rules | `(tactic| tm_at "step") => `(tactic| first
  | (with_reducible refine' h_ixTi ?k1 ?k2 ?_; (case k1 => tm_at "dt"); (case k2 => tm_at "at"))
  | (with_reducible refine' h_ixTs ?k1 ?k2 ?_; (case k1 => tm_at "dt"); (case k2 => tm_at "at"))
  | (with_reducible refine' h_ixTb ?k1 ?k2 ?_; (case k1 => tm_at "dt"); (case k2 => tm_at "at"))
  | (with_reducible refine' h_ixTn ?k1 ?k2 ?_; (case k1 => tm_at "dt"); (case k2 => tm_at "at"))
  | (with_reducible refine' h_ixT ?k0 ?k1 ?k2 ?_; (case k0 => with_reducible assumption); (case k1 => tm_at "dt"); (case k2 => tm_at "at"); intro x_ hd_ hs_)
  | (with_reducible refine' h_ixLi ?k0 ?k1 ?k2 ?_; (case k0 => with_reducible assumption); (case k1 => tm_at "lr"); (case k2 => tm_at "at"))
  | (with_reducible refine' h_ixLs ?k0 ?k1 ?k2 ?_; (case k0 => with_reducible assumption); (case k1 => tm_at "lr"); (case k2 => tm_at "at"))
  | (with_reducible refine' h_ixLb ?k0 ?k1 ?k2 ?_; (case k0 => with_reducible assumption); (case k1 => tm_at "lr"); (case k2 => tm_at "at"))
  | (with_reducible refine' h_ixL ?k0 ?k1 ?k2 ?_; (case k0 => with_reducible assumption); (case k1 => tm_at "lr"); (case k2 => tm_at "at"); intro x_ hd_ hs_)
  | (with_reducible refine' h_gtup ?k1 ?k2 ?_; (case k1 => tm_at "dt"); (case k2 => k_dflt rfl); intro xs_ hq_)
  | (with_reducible refine' h_gci ?k1 ?_; (case k1 => with_reducible assumption); intro xs_ hq_)
  | (with_reducible refine' h_gcs ?k1 ?_; (case k1 => with_reducible assumption); intro xs_ hq_)
  | (with_reducible refine' h_gcb ?k1 ?_; (case k1 => with_reducible assumption); intro xs_ hq_)
  | (with_reducible refine' h_gcn ?k1 ?_; (case k1 => with_reducible assumption); intro xs_ hq_)
  | (with_reducible refine' h_gc ?k0 ?k1 ?_; (case k0 => with_reducible assumption); (case k1 => with_reducible assumption); intro x_ xs_ hq_ hs_)
  | (with_reducible refine' h_gn ?k1 ?_; (case k1 => with_reducible assumption))
  | (with_reducible refine' h_lenL ?k1 ?_; (case k1 => tm_at "lr"))
  | (with_reducible refine' h_lenT ?k1 ?_; (case k1 => tm_at "dt"))
  | (with_reducible refine' h_tup ?k0 ?k1 ?k2 ?_; (case k0 => with_reducible assumption); (case k1 => k_dflt (exact Nat.le_of_ble_eq_true rfl)); (case k2 => tm_at "dts"); intro p_ H_ hs_)
  | (with_reducible refine' h_lst ?k0 ?k1 ?k2 ?_; (case k0 => with_reducible assumption); (case k1 => k_dflt (exact Nat.le_of_ble_eq_true rfl)); (case k2 => tm_at "dts"); intro p_ H_ hs_)
  | (with_reducible refine' h_tupO ?k0 ?k1 ?_; (case k0 => with_reducible assumption); (case k1 => k_dflt (exact Nat.le_of_ble_eq_true rfl)); intro p_ H_ hs_)
  | (with_reducible refine' h_lstO ?k0 ?k1 ?_; (case k0 => with_reducible assumption); (case k1 => k_dflt (exact Nat.le_of_ble_eq_true rfl)); intro p_ H_ hs_)
  | fail)
local macro_rules | `(tactic| tm_at "step") => `(tactic| first
  | (with_reducible refine' h_bmL ?k0 ?k1 ?_; (case k0 => with_reducible assumption); (case k1 => tm_at "loc"))
  | (with_reducible refine' h_app ?k0 ?k1 ?k2 ?k3 ?_; (case k0 => with_reducible assumption); (case k1 => tm_at "loc"); (case k2 => tm_at "dt"); (case k3 => tm_at "sz"); intro H_ hs_)
  | (with_reducible refine' h_setL ?k0 ?k1 ?k2 ?k3 ?_; (case k0 => with_reducible assumption); (case k1 => tm_at "loc"); (case k2 => tm_at "dt"); (case k3 => tm_at "at"); intro H_ hs_)
  | (with_reducible refine' h_slL ?k0 ?k1 ?_; (case k0 => with_reducible assumption); (case k1 => tm_at "lr"); intro p_ H_ hs_)
  | (with_reducible refine' h_sl3 ?k0 ?k1 ?_; (case k0 => with_reducible assumption); (case k1 => tm_at "dt"); intro p_ H_ hs_)
  | (with_reducible refine' h_slf1 ?k0 ?k1 ?_; (case k0 => with_reducible assumption); (case k1 => tm_at "dt"); intro p_ H_ hs_)
  | (with_reducible refine' h_slT ?k0 ?k1 ?_; (case k0 => with_reducible assumption); (case k1 => tm_at "dt"); intro p_ H_ hs_)
  | (with_reducible refine' h_catLe ?k0 ?k1 ?k2 ?k3 ?k4 ?_; (case k0 => with_reducible assumption); (case k1 => tm_at "lr"); (case k2 => tm_at "lr"); (case k3 => tm_at "sz"); (case k4 => ((try simp only [List.cons_append, List.nil_append]); k_dflt rfl)); intro p_ H_ hs_)
  | (with_reducible refine' h_catTe ?k0 ?k1 ?k2 ?k3 ?k4 ?_; (case k0 => with_reducible assumption); (case k1 => tm_at "dt"); (case k2 => tm_at "dt"); (case k3 => tm_at "sz"); (case k4 => ((try simp only [List.cons_append, List.nil_append]); k_dflt rfl)); intro p_ H_ hs_)
  | (with_reducible refine' h_extL ?k0 ?k1 ?k2 ?k3 ?_; (case k0 => with_reducible assumption); (case k1 => tm_at "loc"); (case k2 => tm_at "lr"); (case k3 => tm_at "sz"); intro H_ hs_)
  | (with_reducible refine' h_tupOfL ?k0 ?k1 ?_; (case k0 => with_reducible assumption); (case k1 => tm_at "lr"); intro p_ H_ hs_)
  | (with_reducible refine' h_tupOfT ?k1 ?_; (case k1 => tm_at "dt"))
  | (with_reducible refine' h_listOfL ?k0 ?k1 ?_; (case k0 => with_reducible assumption); (case k1 => tm_at "lr"); intro p_ H_ hs_)
  | (with_reducible refine' h_listOfT ?k0 ?k1 ?_; (case k0 => with_reducible assumption); (case k1 => tm_at "dt"); intro p_ H_ hs_)
  | (with_reducible refine' h_eq ?k1 ?k2 ?k3 ?_; (case k1 => tm_at "da"); (case k2 => tm_at "da"); (case k3 => tm_at "dep"))
  | (with_reducible refine' h_ne ?k1 ?k2 ?k3 ?_; (case k1 => tm_at "da"); (case k2 => tm_at "da"); (case k3 => tm_at "dep"))
  | (with_reducible refine' h_inL ?k1 ?k2 ?k3 ?_; (case k1 => tm_at "dt"); (case k2 => tm_at "da"); (case k3 => tm_at "dep"))
  | (with_reducible refine' h_niL ?k1 ?k2 ?k3 ?_; (case k1 => tm_at "dt"); (case k2 => tm_at "da"); (case k3 => tm_at "dep"))
  | (with_reducible refine' h_inT ?k1 ?k2 ?k3 ?_; (case k1 => tm_at "dt"); (case k2 => tm_at "dt"); (case k3 => tm_at "dep"))
  | (with_reducible refine' h_niT ?k1 ?k2 ?k3 ?_; (case k1 => tm_at "dt"); (case k2 => tm_at "dt"); (case k3 => tm_at "dep"))
  | with_reducible refine u_chain ?_
  | (with_reducible refine' h_min4 ?k1 ?_; (case k1 => tm_at "dt"); intro m_ h1_ h2_ h3_ h4_ h5_)
  | (with_reducible refine' h_iL ?k1 ?_; (case k1 => tm_at "lr"))
  | (with_reducible refine' h_iT ?k1 ?_; (case k1 => tm_at "dt"))
  | (with_reducible refine' lcE ?k1 ?k2 ?k3 ?k4 ?k5 ?_; (case k1 => tm_at "wk"); (case k2 => tm_at "zs"); (case k3 => omega); (case k4 => omega); (case k5 => tm_at "dt"))
  | (with_reducible refine' lcS ?k1 ?k2 ?k3 ?_; (case k1 => tm_at "wk"); (case k2 => tm_at "zs"); (case k3 => omega))
  | with_reducible refine u_iA ?_
  | (with_reducible refine' f_repG ?k1 ?k2 ?k3 ?_; (case k1 => omega); (case k2 => omega); (case k3 => omega); intro z_ hz_)
  | (with_reducible refine' k_vA ?k0 ?k1 ?k2 ?_; (case k0 => with_reducible assumption); (case k1 => tm_at "dts"); (case k2 => tm_at "mono"))
  | (with_reducible refine' k_wA ?k0 ?k1 ?k2 ?k3 ?_; (case k0 => with_reducible assumption); (case k1 => tm_at "loc"); (case k2 => tm_at "dts"); (case k3 => tm_at "mono"))
  | (with_reducible refine' k_vlA ?k0 ?k1 ?k2 ?_; (case k0 => with_reducible assumption); (case k1 => tm_at "dts"); (case k2 => tm_at "mono"))
  | (with_reducible refine' k_wlA ?k0 ?k1 ?k2 ?k3 ?_; (case k0 => with_reducible assumption); (case k1 => tm_at "loc"); (case k2 => tm_at "dts"); (case k3 => tm_at "mono"))
  | (with_reducible refine ret_int ?_; intro H_ hs_)
  | (with_reducible refine ret_str ?_; intro H_ hs_)
  | (with_reducible refine ret_bl ?_; intro H_ hs_)
  | (with_reducible refine ret_non ?_; intro H_ hs_)
  | (with_reducible refine ret_any ?_; intro v_ Z_ H_ hz_ hs_)
  | (with_reducible refine retL ?_; intro p_ Z_ H_ hz_ hs_)
  | fail)
local macro_rules | `(tactic| tm_at "step") => `(tactic| first
  | with_reducible refine u_isNi ?_
  | with_reducible refine u_isNb ?_
  | with_reducible refine u_isNs ?_
  | with_reducible refine u_isi (.base (.str _)) kB_sb ?_
  | with_reducible refine u_isi (.base (.str _)) kB_ss ?_
  | with_reducible refine u_isi (.base (.str _)) kB_si ?_
  | with_reducible refine u_isi (.base (.bl _)) kB_bs ?_
  | with_reducible refine u_isi (.base (.bl _)) kB_bi ?_
  | with_reducible refine u_isi (.base (.int _)) kB_is ?_
  | (with_reducible refine' u_isi (ty_tup ?k1) kB_tt ?_; (case k1 => tm_at "dt"))
  | (with_reducible refine' u_isi (ty_tup ?k1) kB_tl ?_; (case k1 => tm_at "dt"))
  | (with_reducible refine' u_isi (ty_tup ?k1) kB_tb ?_; (case k1 => tm_at "dt"))
  | (with_reducible refine' u_isi (ty_tup ?k1) kB_ts ?_; (case k1 => tm_at "dt"))
  | (with_reducible refine' u_isi (ty_tup ?k1) kB_ti ?_; (case k1 => tm_at "dt"))
  | (with_reducible refine' u_isi (ty_lst ?k1) kB_lt ?_; (case k1 => tm_at "lr"))
  | (with_reducible refine' u_isi (ty_lst ?k1) kB_ll ?_; (case k1 => tm_at "lr"))
  | (with_reducible refine' u_isi (ty_lst ?k1) kB_lb ?_; (case k1 => tm_at "lr"))
  | (with_reducible refine' u_isi (ty_lst ?k1) kB_ls ?_; (case k1 => tm_at "lr"))
  | (with_reducible refine' u_isi (ty_lst ?k1) kB_li ?_; (case k1 => tm_at "lr"))
  | fail)
local macro_rules | `(tactic| tm_at "anyi") => `(tactic| (intro d hd; simp only [List.mem_cons, List.not_mem_nil, or_false] at hd; repeat' (rcases hd with rfl | hd); all_goals (first | exact ⟨_, rfl⟩ | (subst hd; exact ⟨_, rfl⟩))))
local macro_rules | `(tactic| tm_at "len") => `(tactic| (simp only [List.length_cons, List.length_nil, List.length_map, List.length_append]; omega))
local macro_rules | `(tactic| tm_at "step") => `(tactic| first
  | with_reducible refine u_dget2 ?_
  | with_reducible refine u_dput ?_
  | (with_reducible refine' h_dnewT ?k0 ?_; (case k0 => with_reducible assumption); intro p_ H_ hs_)
  | (with_reducible refine' h_dgA ?k0 ?k1 ?_; (case k0 => with_reducible assumption); (case k1 => tm_at "loc"))
  | fail)
local macro_rules | `(tactic| tm_at "finv") => `(tactic| (with_reducible refine' fin_v ?k1 ?k2 ?_; (case k1 => with_reducible assumption); (case k2 => tm_at "dt")))
local macro_rules | `(tactic| tm_at "finw") => `(tactic| (with_reducible refine' fin_w ?k1 ?k2 ?k3 ?_; (case k1 => with_reducible assumption); (case k2 => tm_at "loc"); (case k3 => tm_at "dt")))
local macro_rules | `(tactic| tm_at "finvl") => `(tactic| (with_reducible refine' fin_vl ?k1 ?k2 ?_; (case k1 => with_reducible assumption); (case k2 => tm_at "loc")))

local macro_rules | `(tactic| tm_at "step") => `(tactic| first | (with_reducible refine' k_draw ?k1 ?k2 ?_; (case k1 => tm_at "lp"); (case k2 => k_dflt omega); intro r_ H_ h0_ h1_ hk_ hp_) | fail)
local macro_rules | `(tactic| tm_at "step") => `(tactic| first | with_reducible refine k_int ?_ | fail)
local macro_rules | `(tactic| tm_at "step") => `(tactic| first | (with_reducible refine' k_pool ?k1 ?k2 ?_; (case k1 => tm_at "ls"); (case k2 => k_dflt (tm_at "side")); intro p_ H_ hn_ hk_ hp_) | fail)
local macro_rules | `(tactic| tm_at "step") => `(tactic| first | (with_reducible refine' h_draw ?k0 ?k1 ?k2 ?_; (case k0 => with_reducible assumption); (case k1 => tm_at "loc"); (case k2 => k_dflt omega); intro r_ H_ h0_ h1_ hs_) | fail)
local macro_rules | `(tactic| tm_at "ln") => `(tactic| first | with_reducible assumption | omega | (simp only [SX.S_len, Str.length_append]; omega) | fail)
local macro_rules | `(tactic| tm_at "lg") => `(tactic| first | with_reducible assumption | (with_reducible refine' bt_log ?k1; (case k1 => tm_at "bm")) | fail)
local macro_rules | `(tactic| tm_at "step") => `(tactic| first
  | with_reducible refine u_eqS ?_
  | with_reducible refine u_neS ?_
  | with_reducible refine bm_str ?_
  | with_reducible refine u_bm0 ?_
  | with_reducible refine u_find ?_
  | with_reducible refine u_asc ?_
  | with_reducible refine u_dgt ?_
  | with_reducible refine u_inS ?_
  | with_reducible refine u_niS ?_
  | with_reducible refine u_isNn ?_
  | with_reducible refine u_isNr ?_
  | (with_reducible refine' u_partS ?k1 ?k2 ?_; (case k1 => k_dflt rfl); (case k2 => tm_at "ln"); intro p_ H_ hn_ hk_ ho_)
  | (with_reducible refine' u_rmp ?k1 ?_; (case k1 => tm_at "ln"))
  | (with_reducible refine' u_addS ?k1 ?_; (case k1 => tm_at "ln"))
  | (with_reducible refine' u_lenS ?k1 ?_; (case k1 => tm_at "ln"))
  | (with_reducible refine' u_strI ?k1 ?_; (case k1 => tm_at "lg"))
  | (with_reducible refine' u_slX ?k1 ?_; (case k1 => tm_at "ln"))
  | with_reducible refine u_iS ?_
  | with_reducible refine u_iSq ?_
  | with_reducible refine u_join ?_
  | with_reducible refine js_cons ?_
  | with_reducible refine js_nil ?_
  | (with_reducible refine' jsQ ?k1 ?_; (case k1 => tm_at "ln"))
  | with_reducible refine u_fmt ?_
  | (with_reducible refine' fmtI ?k1 ?_; (case k1 => tm_at "lg"))
  | fail)
local macro_rules | `(tactic| tm_at "step") => `(tactic| first
  | (with_reducible refine' f_add ?k1 ?_; (case k1 => omega); intro z_ hz_)
  | (with_reducible refine' f_sl ?k1 ?_; (case k1 => omega); intro z_ hz_)
  | (with_reducible refine' f_ix ?k1 ?k2 ?k3 ?_; (case k1 => omega); (case k2 => omega); (case k3 => omega); intro c_ hz_)
  | (with_reducible refine' f_strI ?k1 ?_; (case k1 => tm_at "bm"); intro z_ hz_)
  | (with_reducible refine' f_rep ?k1 ?k2 ?_; (case k1 => omega); (case k2 => omega); intro z_ hz_)
  | fail)
local macro_rules | `(tactic| tm_at "step") => `(tactic| first | (with_reducible refine' f_repE ?k0 ?k1 ?k2 ?_; (case k0 => with_reducible assumption); (case k1 => omega); (case k2 => omega); intro z_ hz_) | fail)
local macro_rules | `(tactic| tm_at "step") => `(tactic| first | (with_reducible refine' f_upp ?k1 ?_; (case k1 => omega); intro z_ hz_) | fail)
local macro_rules | `(tactic| tm_at "step") => `(tactic| first | (with_reducible refine' sp_is_name ?k1 ?_; (case k1 => tm_at "pre")) | fail)
local macro_rules | `(tactic| tm_at "step") => `(tactic| first | (with_reducible refine' sp_l_is_name ?k1 ?_; (case k1 => tm_at "pre")) | fail)
local macro_rules | `(tactic| tm_at "step") => `(tactic| first | (with_reducible refine sp_l_name ?_; intro z_ hr_) | fail)
local macro_rules | `(tactic| tm_at "step") => `(tactic| first | (with_reducible refine sp_l_names ?_; intro zs_ hr_) | fail)
local macro_rules | `(tactic| tm_at "step") => `(tactic| first | (with_reducible refine' sp_l_odd_name ?k1 ?_; (case k1 => tm_at "pre"); intro z_ hr_) | fail)
local macro_rules | `(tactic| tm_at "step") => `(tactic| first | (with_reducible refine sp_l_book ?_; intro s_ f_ cs_ hr_) | fail)
local macro_rules | `(tactic| tm_at "step") => `(tactic| first | (with_reducible refine' sp_l_more_options ?k1 ?_; (case k1 => tm_at "pre"); intro cs2_ hr_) | fail)
local macro_rules | `(tactic| tm_at "step") => `(tactic| first | (with_reducible refine' sp_l_bent ?k1 ?_; (case k1 => tm_at "pre"); intro s2_ f2_ cs2_ hr_) | fail)
section
variable {P : Program} {w : World} {K : PySem.W.Frag} {mg : Str → Option Value} {base : Heap} {CPlainBook COddsError CBadShare CBadText CBadBook CBadMove CBadProgram CBadPlan CUnfit CTooLarge CBadEdit : Addr}
theorem ok_l_more_options (T : Txt K mg CPlainBook COddsError CBadShare CBadText CBadBook CBadMove CBadProgram CBadPlan CUnfit CTooLarge CBadEdit) : Fc P w K mg base CX0 2 "_law_more_options" ["pool", "states", "choices", "at"] (spW K S_l_more_options) := by
  refine fc_of T.d_l_more_options sc_l_more_options (fun vs H Q E h => by obtain ⟨a, us, Z, ds, rfl, hp, na, zl, q, s, cs, n, rfl, pre, k⟩ := h; have := q.length; rw [List.length_cons, this]; rfl) (fun _ _ _ _ _ _ us hl => match us, hl with | [_, _, _, _], _ => rfl) fun f cdv A outer s H vs Q E hr h => ⟨_, (pss_cons (ps_set (i := 4) sc_l_more_options.nd rfl (Or.inr rfl) (pe_slice (sltAK K) (pe_ix (ixlK K) (pv 2) (pv 3) (fun _ _ => rfl)) po_none (po_some pe_int)))
 (pss_cons (ps_set (i := 5) sc_l_more_options.nd rfl (Or.inl rfl) (pe_op op_add pe_int (pe_fc (ok_l_draw T) pass0 (hr.mono (by omega)) (pa_cons (pv 0) (pa_cons pe_int pa_nil)))))
 (pss_cons (ps_for PassesOwn.never rfl (pi_range1 (by rfl) T.n_range (pa_cons pe_int pa_nil)) (pg_name (i := 6) sc_l_more_options.nd rfl (Or.inl rfl))
 (pss_cons (ps_set (i := 7) sc_l_more_options.nd rfl (Or.inl rfl) (pe_op (catAK K) (pv 4) (pe_tup (pa_cons (pe_op op_mulX (pe_op op_sub (pv 1) pe_int) (pe_callTy c_int1 (by rfl) T.n_int b_int (pa_cons (pe_cmpR op_eq (pe_op op_mod (pe_callTy c_int1 (by rfl) T.n_int b_int (pa_cons (pv 6) pa_nil)) pe_int) pe_int (nomark _)) pa_nil))) (pa_cons (pe_callTy c_int1 (by rfl) T.n_int b_int (pa_cons (pv 6) pa_nil)) pa_nil)))))
 (pss_cons (ps_setLc (i := 8) (own := [("c", 9)]) (g := (gName 9)) rfl sc_l_more_options.nd rfl rfl (sw_true rfl rfl rfl (by decide +kernel)) (piLK K (pv 2)) (blkOk_by (own := [("c", 9)]) (N := ["pool", "states", "choices", "at", "key", "many", "k", "choice", "alike", "c"]) (sc := defScope s_l_more_options) (by decide +kernel)) (fun _ _ _ _ _ => (pg_name (i := 9) sc_l_more_options.nd rfl (Or.inl rfl))) (fun _ _ _ _ _ => (pts_one (pt_cmpR (eqAK K hr.units) (pe_slice (sltAK K) (pv 9) po_none (po_some pe_int)) (pv 4) (nomark _)))) (fun _ _ _ _ _ => (pv 9)))
 (pss_one (ps_if (PW.pt (pw_and (pt_cmpR (niAK K hr.units) (pv 7) (pv 2) rfl) (pw_and1 (pt_cmpR op_lt (pe_callB (lenK K) (by rfl) T.n_len b_len (pa_cons (pv 8) pa_nil)) (pv 5) (nomark _)))))
 (pss_one (ps_set (i := 2) sc_l_more_options.nd rfl (Or.inl rfl) (pe_op o_catL (pv 2) (pe_lst (pa_cons (pv 7) pa_nil)))))
 pss_nil)))))
 (pss_one (ps_ret (pv 2)))))), ?_⟩
  obtain ⟨a, us, Z, ds, rfl, hp, na, zl, q, s, cs, n, rfl, pre, k⟩ := h
  have hs := in_w hp na zl q
  obtain ⟨_, e_, h2⟩ := hs.argI; clear hs; subst e_; have hs := h2; clear h2
  obtain ⟨v1, _, e_, h2⟩ := hs.arg; clear hs; subst e_; have hs := h2; clear h2
  obtain ⟨_, e_, h2⟩ := hs.argI; clear hs; subst e_; have hs := h2; clear h2
  obtain ⟨e_, h2⟩ := hs.argN; clear hs; subst e_; have hs := h2; clear h2
  have lc : (cs.map eCh).length = cs.length := List.length_map _
  have en : ∃ c, cs[n.toNat]? = some c := ⟨_, List.getElem?_eq_getElem (by omega)⟩
  obtain ⟨c0, hc0⟩ := en
  have e0 : atI (cs.map eCh) n = some (eCh c0) := by
    have : atI (cs.map eCh) ((n.toNat : Nat) : Int) = some (eCh c0) := atI_nat (by rw [List.getElem?_map, hc0]; rfl)
    rw [Int.toNat_of_nonneg pre.2.2.1] at this
    exact this
  have ml : ∀ x : Int, (x = 0 ∨ x = 1) → CMulX (s - 1) x := fun x hx => cmulx_of (by omega)
  tm_at "go"
  rename_i _ _ _ ky Hk _ r Hr r0 r1 hs6
  have hcl := pre.2.1.1
  have hs7 : Hs K ⟨H, [a], Z⟩ Z Hr [.pool a] [([v1], [.list (cs.map eCh)]), ([ky], [.tuple [.str c0.nm, .int c0.h, .int c0.a]])] := by
    have q2 := hs6.fact1 (hs6.dt (by tm_at "mem") : Dt K Z Hr v1 (.list (cs.map eCh)))
    tm_at "wk"
  refine l_range (fun i σ H' => ∃ (c2 : List Ch) (v u1 u2 u3 u4 : V) (o1 o2 o3 o4 : Option V) (Z2 : List Addr), σ = [some (.ref a), some (.int s), some v, some (.int n), some ky, some (.int (4 + r)), o1, o2, o3, o4] ∧ (c2.length ≤ cs.length + i ∧ ∀ c ∈ c2, c.nm.length ≤ 300) ∧ Hs K ⟨H, [a], Z⟩ Z2 H' [.pool a] [([v], [.list (c2.map eCh)]), ([ky], [.tuple [.str c0.nm, .int c0.h, .int c0.a]])]) ?_ ?_ ?_
  · exact ⟨cs, _, .non, .non, .non, .non, none, none, none, none, _, rfl, ⟨by omega, pre.2.1.2⟩, by tm_at "wk"⟩
  · rintro i σ H8 hi ⟨c2, v, _, _, _, _, o1, o2, o3, o4, Z2, rfl, hcs, hs8⟩
    have lc : (c2.map eCh).length < 100000 := by rw [List.length_map]; omega
    tm_at "run"
    refine h_lcL (c2.map eCh) (fun _ _ => True) (by assumption) (fun D acc Z' H' h => by tm_at "lr") trivial (fun D i2 d x acc Z3 H9 hd _ hacc hz hs9 => ?_) (fun D acc Z3 H9 _ hacc hz hs9 => ?_)
    · have hi2 : i2 < 100000 := by have := (List.getElem?_eq_some_iff.mp hd).1; omega
      obtain ⟨c, hc, rfl⟩ := at_map hd
      tm_at "run"
      all_goals trivial
    · tm_at "run"
      all_goals first
        | exact ⟨c2, _, .non, .non, .non, .non, _, _, _, _, _, rfl, ⟨by omega, hcs.2⟩, by tm_at "wk"⟩
        | (rename_i pn Hn hsn
           have hsf := hsn.freeze .here
           exact ⟨c2 ++ [⟨c0.nm, c0.h, c0.a, (s - 1) * (if decide ((0 + (i : Int)) % 2 = 1) = true then 1 else 0), 0 + (i : Int)⟩], _, .non, .non, .non, .non, _, _, _, _, _, rfl, ⟨by rw [List.length_append, List.length_singleton]; omega, fun c hc => by
            rcases List.mem_append.mp hc with y | y
            · exact hcs.2 c y
            · rw [List.mem_singleton.mp y]; exact pre.2.1.2 c0 (List.mem_of_getElem? hc0)⟩, by rw [map_snoc]; tm_at "wk"⟩)
  · rintro σ H8 ⟨c2, v, _, _, _, _, o1, o2, o3, o4, Z2, rfl, hcs, hs8⟩
    tm_at "run"
    tm_at "finw"
    exact k c2 ⟨by omega, hcs.2⟩
theorem set_place (c : Ch) (v : Int) (r : Int) (h0 : 0 ≤ r) (h1 : r ≤ 3) : ∃ c2 : Ch, cutD [PyData.str c.nm, .int c.h, .int c.a, .int c.t, .int c.r] none (some (1 + r)) ++ [.int v] ++ cutD [PyData.str c.nm, .int c.h, .int c.a, .int c.t, .int c.r] (some (1 + r + 1)) none = [PyData.str c2.nm, .int c2.h, .int c2.a, .int c2.t, .int c2.r] ∧ c2.nm = c.nm := by
  have : r = 0 ∨ r = 1 ∨ r = 2 ∨ r = 3 := by omega
  rcases this with rfl | rfl | rfl | rfl
  · exact ⟨⟨c.nm, v, c.a, c.t, c.r⟩, rfl, rfl⟩
  · exact ⟨⟨c.nm, c.h, v, c.t, c.r⟩, rfl, rfl⟩
  · exact ⟨⟨c.nm, c.h, c.a, v, c.r⟩, rfl, rfl⟩
  · exact ⟨⟨c.nm, c.h, c.a, c.t, v⟩, rfl, rfl⟩
local macro_rules | `(tactic| tm_at "step") => `(tactic| first | (with_reducible refine' h_slLf ?k0 ?k1 ?_; (case k0 => with_reducible assumption); (case k1 => tm_at "lr"); intro l_ p_ H_ hl_ hm_ hs_) | fail)
theorem b01 (c : Prop) [Decidable c] : 0 ≤ (if decide c = true then (1 : Int) else 0) ∧ (if decide c = true then (1 : Int) else 0) < 2 := by split <;> omega
theorem bent_end {B : Bs} {Z : List Addr} {H : Hp} {L : List Ent} {M : List (List V × List PyData)} {p a : Addr} {l1 l2 cs : List Ch} {c : Ch} (h : Hs K B Z H (.dl K p (l1.map eCh ++ [eCh c] ++ l2.map eCh) true :: L) M) (s : Suf [.pool a] L)
    (b1 : l1.length ≤ cs.length) (m1 : ∀ x ∈ l1, x ∈ cs) (b2 : l2.length ≤ cs.length) (m2 : ∀ x ∈ l2, x ∈ cs) (hS : Sml 12 cs) (hc : c.nm.length ≤ 300) : ∃ c2, Sml 30 c2 ∧ Hs K B (p :: Z) H [.pool a] [([.ref p], [.list (c2.map eCh)])] := by
  refine ⟨l1 ++ [c] ++ l2, ((((hS.sub b1 m1).app (Sml.one hc)).app (hS.sub b2 m2)).mono (by decide)), ?_⟩
  rw [List.map_append, map_snoc]
  have h2 := h.freeze .here
  exact h2.wk s (.keep (Suf.nil_ M))
theorem ok_l_bent (T : Txt K mg CPlainBook COddsError CBadShare CBadText CBadBook CBadMove CBadProgram CBadPlan CUnfit CTooLarge CBadEdit) : Fc P w K mg base CX0 5 "_law_bent" ["pool", "book"] (spW K S_l_bent) := by
  refine fc_of T.d_l_bent sc_l_bent (fun vs H Q E h => by obtain ⟨a, us, Z, ds, rfl, hp, na, zl, q, s, f, cs, rfl, pre, k⟩ := h; have := q.length; rw [List.length_cons, this]; rfl) (fun _ _ _ _ _ _ us hl => match us, hl with | [_, _], _ => rfl) fun f cdv A outer s H vs Q E hr h => ⟨_, (pss_cons (ps_asg (pv 1) (pgTK K 3 (by rfl) (pgs_cons (pg_name (i := 2) sc_l_bent.nd rfl (Or.inl rfl)) (pgs_cons (pg_name (i := 3) sc_l_bent.nd rfl (Or.inl rfl)) (pgs_cons (pg_name (i := 4) sc_l_bent.nd rfl (Or.inl rfl)) pgs_nil)))))
 (pss_cons (ps_set (i := 5) sc_l_bent.nd rfl (Or.inl rfl) (pe_fc (ok_l_draw T) pass0 (hr.mono (by omega)) (pa_cons (pv 0) (pa_cons pe_int pa_nil))))
 (pss_cons (ps_set (i := 6) sc_l_bent.nd rfl (Or.inl rfl) (pe_ix (ixlK K) (pe_lst (pa_cons (pe_op op_pow pe_int pe_int) (pa_cons (pe_op op_pow pe_int pe_int) pa_nil))) (pe_fc (ok_l_draw T) pass0 (hr.mono (by omega)) (pa_cons (pv 0) (pa_cons pe_int pa_nil))) (fun _ _ => rfl)))
 (pss_cons (ps_if (pt_cmpR op_eq (pv 5) pe_int (nomark _))
 (pss_one (ps_ret (pe_tup (pa_cons (pe_ix (ixlK K) (pe_lst (pa_cons pe_int (pa_cons pe_int (pa_cons (pe_un un_neg pe_int) (pa_cons pe_int (pa_cons pe_int (pa_cons (pv 6) pa_nil))))))) (pe_fc (ok_l_draw T) pass0 (hr.mono (by omega)) (pa_cons (pv 0) (pa_cons pe_int pa_nil))) (fun _ _ => rfl)) (pa_cons (pv 3) (pa_cons (pv 4) pa_nil))))))
 pss_nil)
 (pss_cons (ps_if (pt_cmpR op_eq (pv 5) pe_int (nomark _))
 (pss_one (ps_ret (pe_tup (pa_cons (pv 2) (pa_cons (pe_ix (ixlK K) (pe_lst (pa_cons (pe_un un_neg pe_int) (pa_cons (pv 2) (pa_cons (pe_op op_sub (pv 2) pe_int) (pa_cons (pv 6) (pa_cons (pe_un un_neg (pv 6)) pa_nil)))))) (pe_fc (ok_l_draw T) pass0 (hr.mono (by omega)) (pa_cons (pv 0) (pa_cons pe_int pa_nil))) (fun _ _ => rfl)) (pa_cons (pv 4) pa_nil))))))
 pss_nil)
 (pss_cons (ps_if (PW.pt (pw_or (pt_cmpR op_lt (pv 5) pe_int (nomark _)) (pw_or1 (pt_cmpR op_eq (pe_callB (lenK K) (by rfl) T.n_len b_len (pa_cons (pv 4) pa_nil)) pe_int (nomark _)))))
 (pss_one (ps_ret (pv 1)))
 pss_nil)
 (pss_cons (ps_set (i := 7) sc_l_bent.nd rfl (Or.inl rfl) (pe_fc (ok_l_draw T) pass0 (hr.mono (by omega)) (pa_cons (pv 0) (pa_cons (pe_callB (lenK K) (by rfl) T.n_len b_len (pa_cons (pv 4) pa_nil)) pa_nil))))
 (pss_cons (ps_set (i := 8) sc_l_bent.nd rfl (Or.inl rfl) (pe_ix (ixlK K) (pv 4) (pv 7) (fun _ _ => rfl)))
 (C8.pss_cut (ps_if (PW.pt (pw_or (pt_cmpR op_eq (pv 5) pe_int (nomark _)) (pw_or1 (pt_cmpR op_eq (pv 5) pe_int (nomark _)))))
 (pss_cons (ps_set (i := 9) sc_l_bent.nd rfl (Or.inl rfl) (pe_op op_add pe_int (pe_fc (ok_l_draw T) pass0 (hr.mono (by omega)) (pa_cons (pv 0) (pa_cons pe_int pa_nil)))))
 (pss_cons (ps_set (i := 10) sc_l_bent.nd rfl (Or.inl rfl) (pe_ix (ixlK K) (pe_lst (pa_cons (pv 2) (pa_cons pe_int pa_nil))) (pe_callTy c_int1 (by rfl) T.n_int b_int (pa_cons (pe_cmpR op_eq (pe_op op_mod (pe_callTy c_int1 (by rfl) T.n_int b_int (pa_cons (pv 9) pa_nil)) pe_int) pe_int (nomark _)) pa_nil)) (fun _ _ => rfl)))
 (pss_cons (ps_set (i := 11) sc_l_bent.nd rfl (Or.inl rfl) (pe_ix (ixlK K) (pe_lst (pa_cons (pe_un un_neg pe_int) (pa_cons (pv 10) (pa_cons (pv 10) (pa_cons (pe_op op_sub (pv 10) pe_int) (pa_cons (pv 6) (pa_cons (pe_un un_neg (pv 6)) pa_nil))))))) (pe_fc (ok_l_draw T) pass0 (hr.mono (by omega)) (pa_cons (pv 0) (pa_cons pe_int pa_nil))) (fun _ _ => rfl)))
 (pss_one (ps_set (i := 4) sc_l_bent.nd rfl (Or.inl rfl) (pe_op o_catL (pe_op o_catL (pe_slice (sllK K) (pv 4) po_none (po_some (pv 7))) (pe_lst (pa_cons (pe_op (catAK K) (pe_op (catAK K) (pe_slice (sltAK K) (pv 8) po_none (po_some (pv 9))) (pe_tup (pa_cons (pv 11) pa_nil))) (pe_slice (sltAK K) (pv 8) (po_some (pe_op op_add (pv 9) pe_int)) po_none)) pa_nil))) (pe_slice (sllK K) (pv 4) (po_some (pe_op op_add (pv 7) pe_int)) po_none)))))))
 (pss_one (ps_if (pt_cmpR op_eq (pv 5) pe_int (nomark _))
 (pss_one (ps_set (i := 4) sc_l_bent.nd rfl (Or.inl rfl) (pe_op o_catL (pe_op o_catL (pe_slice (sllK K) (pv 4) po_none (po_some (pv 7))) (pe_lst (pa_cons (pe_op (catAK K) (pe_tup (pa_cons (pe_fc (ok_l_odd_name T) pass0 (hr.mono (by omega)) (pa_cons (pv 0) (pa_cons (pe_ix (ixtK K) (pv 8) pe_int (fun _ _ => rfl)) pa_nil))) pa_nil)) (pe_slice (sltAK K) (pv 8) (po_some pe_int) po_none)) pa_nil))) (pe_slice (sllK K) (pv 4) (po_some (pe_op op_add (pv 7) pe_int)) po_none))))
 (pss_one (ps_if (pt_cmpR op_eq (pv 5) pe_int (nomark _))
 (pss_cons (ps_set (i := 12) sc_l_bent.nd rfl (Or.inl rfl) (pe_fc (ok_l_draw T) pass0 (hr.mono (by omega)) (pa_cons (pv 0) (pa_cons (pe_op op_add (pe_callB (lenK K) (by rfl) T.n_len b_len (pa_cons (pv 4) pa_nil)) pe_int) pa_nil))))
 (pss_one (ps_set (i := 4) sc_l_bent.nd rfl (Or.inl rfl) (pe_op o_catL (pe_op o_catL (pe_slice (sllK K) (pv 4) po_none (po_some (pv 12))) (pe_lst (pa_cons (pv 8) pa_nil))) (pe_slice (sllK K) (pv 4) (po_some (pv 12)) po_none)))))
 (pss_one (ps_set (i := 4) sc_l_bent.nd rfl (Or.inl rfl) (pe_fc (ok_l_more_options T) pass0 (hr.mono (by omega)) (pa_cons (pv 0) (pa_cons (pv 2) (pa_cons (pv 4) (pa_cons (pv 7) pa_nil))))))))))))
 (pss_one (ps_ret (pe_tup (pa_cons (pv 2) (pa_cons (pv 3) (pa_cons (pv 4) pa_nil))))))))))))))), ?_⟩
  obtain ⟨a, us, Z, ds, rfl, hp, na, zl, q, s, f, cs, rfl, pre, k⟩ := h
  have hs := in_w hp na zl q
  obtain ⟨v0, _, e_, h2⟩ := hs.arg; clear hs; subst e_; have hs := h2; clear h2
  obtain ⟨e_, h2⟩ := hs.argN; clear hs; subst e_; have hs := h2; clear h2
  have lc : (cs.map eCh).length = cs.length := List.length_map _
  have hcl := pre.2.1.1
  have cl : ∀ (lo hi : Option Int), (cutD (cs.map eCh) lo hi).length ≤ cs.length := fun lo hi => by
    obtain ⟨l', e, h, _⟩ := cutD_map eCh cs lo hi
    rw [e, List.length_map]; exact h
  tm_at "go"
  refine h_ixLia (by assumption) (by tm_at "lr") (by omega) (by tm_at "len") rfl fun far => ?_
  tm_at "run"
  · refine h_ixLia (by assumption) (by tm_at "lr") (by omega) (by tm_at "len") rfl fun z => ?_
    tm_at "run"
    tm_at "finw"
    exact k _ _ cs (pre.2.1.mono (by decide))
  · refine h_ixLia (by assumption) (by tm_at "lr") (by omega) (by tm_at "len") rfl fun z => ?_
    tm_at "run"
    tm_at "finw"
    exact k _ _ cs (pre.2.1.mono (by decide))
  · tm_at "finw"
    exact k _ _ cs (pre.2.1.mono (by decide))
  · tm_at "finw"
    exact k _ _ cs (pre.2.1.mono (by decide))
  · refine h_ixLf (by assumption) (by tm_at "lr") (by omega) (by omega) fun c0 hc0 xc qc hs9 => ?_
    have hnm := pre.2.2 c0 hc0
    have hS := pre.2.1
    tm_at "run"
    refine u_cut (fun σ H' => ∃ (v : V) (c2 : List Ch) (Z2 : List Addr) (o0 o1 o2 o3 o4 o5 o6 o7 o8 : Option V), σ = [some (.ref a), o0, some (.int s), some (.int f), some v, o1, o2, o3, o4, o5, o6, o7, o8] ∧ Sml 30 c2 ∧ Hs K ⟨H, [a], Z⟩ Z2 H' [.pool a] [([v], [.list (c2.map eCh)])]) ?_ ?_
    · tm_at "run"
      · rename_i rp _ rp0 rp1 _ _ _ _
        refine h_ixLia (by assumption) (by tm_at "lr") (b01 _).1 (b01 _).2 rfl fun z => ?_
        tm_at "run"
        refine h_ixLia (by assumption) (by tm_at "lr") (by omega) (by tm_at "len") rfl fun z2 => ?_
        tm_at "run"
        refine h_catT (by assumption) (by tm_at "dt") (by tm_at "dt") (Nat.le_trans (Nat.add_le_add_right (cut_len _ _ _) _) (by tm_at "len")) fun q1 Hq1 hsq1 => ?_
        tm_at "run"
        refine h_catT (by assumption) (by tm_at "dt") (by tm_at "dt") (Nat.le_trans (Nat.add_le_add_left (cut_len _ _ _) _) (by rw [List.length_append]; exact Nat.le_trans (Nat.add_le_add_right (Nat.add_le_add_right (cut_len _ _ _) _) _) (by tm_at "len"))) fun q2 Hq2 hsq2 => ?_
        obtain ⟨c2, e2, en⟩ := set_place c0 z2 rp rp0 (by omega)
        rw [e2] at hsq2
        tm_at "run"
        obtain ⟨c3, h3, h4⟩ := bent_end (a := a) (cs := cs) (c := c2) (by assumption) (by tm_at "suf") (by assumption) (by assumption) (by assumption) (by assumption) hS (by rw [en]; omega)
        exact ⟨_, c3, _, _, _, _, _, _, _, _, _, _, rfl, h3, h4⟩
      · rename_i rp _ rp0 rp1 _ _ _ _
        refine h_ixLia (by assumption) (by tm_at "lr") (b01 _).1 (b01 _).2 rfl fun z => ?_
        tm_at "run"
        refine h_ixLia (by assumption) (by tm_at "lr") (by omega) (by tm_at "len") rfl fun z2 => ?_
        tm_at "run"
        refine h_catT (by assumption) (by tm_at "dt") (by tm_at "dt") (Nat.le_trans (Nat.add_le_add_right (cut_len _ _ _) _) (by tm_at "len")) fun q1 Hq1 hsq1 => ?_
        tm_at "run"
        refine h_catT (by assumption) (by tm_at "dt") (by tm_at "dt") (Nat.le_trans (Nat.add_le_add_left (cut_len _ _ _) _) (by rw [List.length_append]; exact Nat.le_trans (Nat.add_le_add_right (Nat.add_le_add_right (cut_len _ _ _) _) _) (by tm_at "len"))) fun q2 Hq2 hsq2 => ?_
        obtain ⟨c2, e2, en⟩ := set_place c0 z2 rp rp0 (by omega)
        rw [e2] at hsq2
        tm_at "run"
        obtain ⟨c3, h3, h4⟩ := bent_end (a := a) (cs := cs) (c := c2) (by assumption) (by tm_at "suf") (by assumption) (by assumption) (by assumption) (by assumption) hS (by rw [en]; omega)
        exact ⟨_, c3, _, _, _, _, _, _, _, _, _, _, rfl, h3, h4⟩
      · obtain ⟨c3, h3, h4⟩ := bent_end (a := a) (cs := cs) (c := ⟨_, _, _, _, _⟩) (by assumption) (by tm_at "suf") (by assumption) (by assumption) (by assumption) (by assumption) hS (by assumption)
        exact ⟨_, c3, _, _, _, _, _, _, _, _, _, _, rfl, h3, h4⟩
      · obtain ⟨c3, h3, h4⟩ := bent_end (a := a) (cs := cs) (c := c0) (by assumption) (by tm_at "suf") (by assumption) (by assumption) (by assumption) (by assumption) hS (by omega)
        exact ⟨_, c3, _, _, _, _, _, _, _, _, _, _, rfl, h3, h4⟩
      · exact ⟨_, _, _, _, _, _, _, _, _, _, _, _, rfl, by assumption, by tm_at "wk"⟩
    · rintro σ H8 ⟨v, c2, Z2, o0, o1, o2, o3, o4, o5, o6, o7, o8, rfl, h2, hs8⟩
      tm_at "run"
      tm_at "finw"
      exact k _ _ c2 h2

end
end My
set_option Elab.async false
set_option linter.all false
set_option autoImplicit false
set_option maxRecDepth 100000
set_option maxHeartbeats 4000000
namespace My
open PySem PySem.Spec PyProof.Rows L2 U
local macro_rules | `(tactic| tm_at "step") => `(tactic| first | (with_reducible refine br_b ?_ ?_ <;> intro hb_) | fail)

/-! my own steps: rows of tactics, tried from above -/
local macro_rules | `(tactic| tm_at "lk") => `(tactic| first | with_reducible assumption | (with_reducible refine' Kp.get0 ?k1 ?k2; (case k1 => with_reducible assumption); (case k2 => tm_at "lk")) | (with_reducible refine' Kp.get1 ?k1 ?k3 ?k2; (case k1 => with_reducible assumption); (case k3 => tm_at "ne"); (case k2 => tm_at "lk")) | fail)
local macro_rules | `(tactic| tm_at "lp") => `(tactic| first | with_reducible assumption | (with_reducible refine' Pool.kp0 ?k1 ?k2; (case k1 => with_reducible assumption); (case k2 => tm_at "lp")) | (with_reducible refine' Pool.kp1 ?k1 ?k3 ?k2; (case k1 => with_reducible assumption); (case k3 => tm_at "ne"); (case k2 => tm_at "lp")) | fail)
local macro_rules | `(tactic| tm_at "ls") => `(tactic| first | with_reducible assumption | (with_reducible refine' Scr.kp0 ?k1 ?k2; (case k1 => with_reducible assumption); (case k2 => tm_at "ls")) | (with_reducible refine' Scr.kp1 ?k1 ?k3 ?k4 ?k2; (case k1 => with_reducible assumption); (case k3 => with_reducible assumption); (case k4 => tm_at "ls"); (case k2 => tm_at "ls")) | fail)
local macro_rules | `(tactic| tm_at "ne") => `(tactic| first | with_reducible assumption | (with_reducible refine' Ne.symm ?k1; with_reducible assumption) | (with_reducible refine' ne_new ?k1 ?k2; (case k1 => with_reducible assumption); (case k2 => tm_at "lk")) | (with_reducible refine' ne_new' ?k1 ?k2; (case k1 => with_reducible assumption); (case k2 => tm_at "lk")) | (with_reducible refine' Pool.ne ?k1 ?k2; (case k1 => with_reducible assumption); (case k2 => tm_at "lp")) | (with_reducible refine' Ne.symm (Pool.ne ?k1 ?k2); (case k1 => with_reducible assumption); (case k2 => tm_at "lp")) | fail)
local macro_rules | `(tactic| tm_at "kc") => `(tactic| first | with_reducible assumption | with_reducible exact Kp.refl | (with_reducible refine' Kp.trans ?k1 (Kp.of0 ?k2); (case k2 => with_reducible assumption); (case k1 => tm_at "kc")) | (with_reducible refine' Kp.trans ?k1 ?k2; (case k2 => with_reducible assumption); (case k1 => tm_at "kc")) | (with_reducible refine' Kp.low' ?k1 ?k2 ?k3 ?k4; (case k2 => with_reducible assumption); (case k3 => with_reducible assumption); (case k1 => tm_at "kc"); (case k4 => tm_at "kc")) | fail)
local macro_rules | `(tactic| tm_at "sq") => `(tactic| first | (with_reducible refine' sql ?k9; (case k9 => tm_at "lk")) | (with_reducible refine' Scr.sq ?k9; (case k9 => tm_at "ls")) | fail)
local macro_rules | `(tactic| tm_at "sqt") => `(tactic| first | (with_reducible refine' sqt ?k9; (case k9 => tm_at "lk")) | fail)
local macro_rules | `(tactic| tm_at "bt") => `(tactic| first | with_reducible assumption | (with_reducible refine' Bt.mul ?k1 ?k2; (case k1 => tm_at "bt"); (case k2 => tm_at "bt")) | (with_reducible refine' Bt.addM ?k1 ?k2; (case k1 => tm_at "bt"); (case k2 => tm_at "bt")) | (with_reducible refine' Bt.subM ?k1 ?k2; (case k1 => tm_at "bt"); (case k2 => tm_at "bt")) | (with_reducible refine' Bt.neg ?k1; (case k1 => tm_at "bt")) | fail)
local macro_rules | `(tactic| tm_at "bm") => `(tactic| first | with_reducible assumption | (with_reducible refine' Bt.mono ?k1 ?k2; (case k1 => with_reducible assumption); (case k2 => k_dflt decide)) | fail)
local macro_rules | `(tactic| tm_at "side") => `(tactic| first | with_reducible assumption | (with_reducible refine' Bt.cmul ?k1 ?k2 ?k3; (case k1 => tm_at "bt"); (case k2 => tm_at "bt"); (case k3 => k_dflt decide)) | (with_reducible refine cmul_of ?k1; (case k1 => omega)) | (with_reducible refine cpow_of ?k1; (case k1 => omega)) | (with_reducible refine cdivw_of ?k1; (case k1 => omega)) | (with_reducible refine cdivw_big ?k1; (case k1 => omega)) | (with_reducible refine cmulx_of ?k1; (case k1 => omega)) | omega | fail)
local macro_rules | `(tactic| tm_at "step") => `(tactic| first
  | with_reducible refine u_op ?_
  | (with_reducible refine' u_var ?k1 ?_; (case k1 => k_dflt rfl))
  | with_reducible refine u_c ?_
  | with_reducible refine u_I0 ?_
  | with_reducible refine u_seq ?_
  | with_reducible refine u_asg ?_
  | with_reducible refine g_name ?_
  | with_reducible refine u_cb ?_
  | with_reducible refine u_cons ?_
  | with_reducible refine u_nil ?_
  | (with_reducible refine' u_pow ?k1 ?k2 ?_; (case k1 => k_dflt (tm_at "side")); (case k2 => (conv => lhs; simp only [Int.reduceToNat, Int.reducePow]) <;> rfl))
  | (with_reducible refine' u_I ?k1 ?_; (case k1 => k_dflt (tm_at "side")))
  | with_reducible refine u_int1 ?_
  | with_reducible refine u_intB ?_
  | with_reducible refine u_if ?_
  | with_reducible refine u_test ?_
  | with_reducible refine u_tb ?_
  | with_reducible refine u_tB ?_
  | with_reducible refine u_eqI ?_
  | with_reducible refine u_neI ?_
  | with_reducible refine u_eqB ?_
  | with_reducible refine u_and ?_
  | with_reducible refine u_or ?_
  | with_reducible refine u_not ?_
  | with_reducible refine u_andV ?_
  | with_reducible refine u_orV ?_
  | with_reducible refine u_notV ?_
  | with_reducible refine br_t ?_
  | with_reducible refine br_f ?_
  | with_reducible refine br_nt ?_
  | with_reducible refine br_nf ?_
  | with_reducible refine br_n ?_
  | with_reducible refine u_ret ?_
  | with_reducible refine u_next ?_
  | with_reducible refine u_drop ?_
  | with_reducible refine u_un ?_
  | with_reducible refine u_U ?_
  | with_reducible refine u_call ?_
  | with_reducible refine u_fldN ?_
  | with_reducible refine g_sub ?_
  | with_reducible refine g_cons ?_
  | with_reducible refine g_nil ?_
  | with_reducible refine u_tpar ?_
  | (with_reducible refine u_absL ?_; intro m_ h1_ h2_)
  | (with_reducible refine u_maxL ?_; intro m_ h1_ h2_ h3_)
  | (with_reducible refine u_minL ?_; intro m_ h1_ h2_ h3_)
  | with_reducible refine u_gcd ?_
  | with_reducible refine u_isi_ii ?_
  | with_reducible refine u_isi_ib ?_
  | with_reducible refine u_isi_bb ?_
  | with_reducible refine u_tupN ?_
  | with_reducible refine u_lstN ?_
  | (with_reducible refine' u_ixL ?k1 ?k2 ?_; (case k1 => tm_at "sq"); (case k2 => first | with_reducible assumption | k_dflt rfl))
  | (with_reducible refine' u_ixT ?k1 ?k2 ?_; (case k1 => tm_at "sqt"); (case k2 => k_dflt rfl))
  | (with_reducible refine' g_tup ?k1 ?k2 ?_; (case k1 => tm_at "sqt"); (case k2 => k_dflt rfl))
  | (with_reducible refine' u_lenL ?k1 ?_; (case k1 => tm_at "sq"))
  | (with_reducible refine' u_lenT ?k1 ?_; (case k1 => tm_at "sqt"))
  | with_reducible refine u_for ?_
  | with_reducible refine u_iL ?_
  | with_reducible refine u_iT ?_
  | with_reducible refine u_r1 ?_
  | with_reducible refine u_r2 ?_
  | (with_reducible refine' u_iLq ?k1 ?_; (case k1 => tm_at "sq"))
  | (with_reducible refine' u_iTq ?k1 ?_; (case k1 => tm_at "sqt"))
  | (with_reducible refine' u_r1q ?k1 ?_; (case k1 => (constructor <;> omega)))
  | (with_reducible refine' u_r2q ?k1 ?_; (case k1 => (refine ⟨?_, ?_, ?_, ?_⟩ <;> omega)))
  | with_reducible refine u_lc ?_
  | with_reducible refine u_yes ?_
  | (with_reducible refine endQ ?k1 ?_; (case k1 => k_dflt rfl))
  | with_reducible refine u_meth ?_
  | with_reducible refine u_callS ?_
  | with_reducible refine u_bm ?_
  | (with_reducible refine' bm_list ?k1 ?_; (case k1 => tm_at "lk"))
  | (with_reducible refine' u_append ?k1 ?k2 ?_; (case k1 => tm_at "lk"); (case k2 => omega); intro H_ hk_ ho_)
  | (with_reducible refine' appE ?k1 ?k2 ?_; (case k1 => tm_at "lk"); (case k2 => omega); intro H_ hk_ ho_)
  | with_reducible refine u_sl ?_
  | with_reducible refine u_noPart ?_
  | with_reducible refine u_part ?_
  | with_reducible refine u_intq ?_
  | (with_reducible refine' u_slL ?k1 ?_; (case k1 => tm_at "sq"); intro p_ H_ hn_ hk_ ho_)
  | (with_reducible refine' n_tup ?k1 ?_; (case k1 => k_dflt (exact Nat.le_of_ble_eq_true rfl)); intro p_ H_ hn_ hk_ ho_)
  | (with_reducible refine' n_lst ?k1 ?_; (case k1 => k_dflt (exact Nat.le_of_ble_eq_true rfl)); intro p_ H_ hn_ hk_ ho_)
  | (with_reducible refine' s_list ?k1 ?k2 ?_; (case k1 => tm_at "lk"); (case k2 => k_dflt rfl); intro H_ hk_ ho_)
  | (with_reducible refine br_d ?_ ?_ <;> intro hc_) | fail)
local macro_rules | `(tactic| tm_at "run") => `(tactic| repeat' tm_at "step")
local macro_rules | `(tactic| tm_at "go") => `(tactic| ((try dsimp only [cxOf, Cx.nox, Cx.wish]); tm_at "run"))

/-! steps over Hs -/
local macro_rules | `(tactic| tm_at "mem") => `(tactic| first | with_reducible exact List.mem_cons_self | (with_reducible refine' List.mem_cons_of_mem _ ?k1; (case k1 => tm_at "mem")) | fail)
local macro_rules | `(tactic| tm_at "loc") => `(tactic| first | with_reducible exact Loc.here | (with_reducible refine' Loc.there ?k1; (case k1 => tm_at "loc")) | fail)
local macro_rules | `(tactic| tm_at "rem") => `(tactic| first | with_reducible exact Rem.here | (with_reducible refine' Rem.there ?k1; (case k1 => tm_at "rem")) | fail)
local macro_rules | `(tactic| tm_at "suf") => `(tactic| first | with_reducible exact Suf.refl | (with_reducible refine' Suf.keep ?k1; (case k1 => tm_at "suf")) | (with_reducible refine' Suf.cons ?k1; (case k1 => tm_at "suf")) | fail)
local macro_rules | `(tactic| tm_at "wk") => `(tactic| first | with_reducible assumption | (with_reducible refine' Hs.wk ?k1 ?k2 ?k3; (case k1 => with_reducible assumption); (case k2 => tm_at "suf"); (case k3 => tm_at "suf")) | fail)
local macro_rules | `(tactic| tm_at "dt") => `(tactic| first | with_reducible exact Dt.int _ | with_reducible exact Dt.str _ | with_reducible exact Dt.bl _ | with_reducible exact Dt.non | with_reducible assumption | (with_reducible refine' Hs.dt ?k1 ?k2; (case k1 => with_reducible assumption); (case k2 => tm_at "mem")) | (with_reducible refine' Hs.dtup ?k1 ?k2 ?k3; (case k1 => with_reducible assumption); (case k2 => tm_at "loc"); (case k3 => tm_at "dts")) | fail)
local macro_rules | `(tactic| tm_at "dts") => `(tactic| first | with_reducible exact Dts.nil | (with_reducible refine' Dts.cons ?k1 ?k2; (case k1 => tm_at "dt"); (case k2 => tm_at "dts")) | with_reducible assumption | (with_reducible refine' Hs.dts ?k1 ?k2; (case k1 => with_reducible assumption); (case k2 => tm_at "mem")) | fail)
local macro_rules | `(tactic| tm_at "da") => `(tactic| first | (with_reducible refine' Da.imm ?k1; (case k1 => tm_at "dt")) | (with_reducible refine' Hs.dlst ?k1 ?k2; (case k1 => with_reducible assumption); (case k2 => tm_at "loc")) | fail)
local macro_rules | `(tactic| tm_at "lr") => `(tactic| first | with_reducible assumption | (with_reducible refine' Hs.dlv ?k1 ?k2; (case k1 => with_reducible assumption); (case k2 => tm_at "loc")) | (with_reducible refine' Dt.dlv ?k1; (case k1 => tm_at "dt")) | fail)
local macro_rules | `(tactic| tm_at "zs") => `(tactic| first | with_reducible assumption | with_reducible exact List.Subset.refl _ | (with_reducible refine' List.Subset.trans ?k1 ?k2; (case k2 => with_reducible assumption); (case k1 => tm_at "zs")) | (with_reducible refine' List.Subset.trans ?k1 (List.subset_cons_self _ _); (case k1 => tm_at "zs")) | fail)
local macro_rules | `(tactic| tm_at "at") => `(tactic| first | with_reducible assumption | k_dflt rfl | fail)
local macro_rules | `(tactic| tm_at "dep") => `(tactic| first | with_reducible assumption | (with_reducible refine' Nat.le_trans (Nat.min_le_left _ _) ?k1; (case k1 => first | with_reducible assumption | exact Nat.le_of_ble_eq_true rfl)) | (with_reducible refine' Nat.le_trans (Nat.min_le_right _ _) ?k1; (case k1 => first | with_reducible assumption | exact Nat.le_of_ble_eq_true rfl)) | fail)
local macro_rules | `(tactic| tm_at "mono") => `(tactic| (intro φ ψ h s; repeat' (first | exact fun r1 r2 r3 r4 => h _ (s r1 r2 r3 r4) | exact fun r1 r2 r3 => h _ (s r1 r2 r3) | exact fun r1 r2 => h _ (s r1 r2) | exact fun r1 => h _ (s r1) | exact h _ s | (obtain ⟨x, s⟩ := s; refine ⟨x, ?_⟩))))
local macro_rules | `(tactic| tm_at "sz") => `(tactic| first | with_reducible assumption | omega | k_dflt (exact Nat.le_of_ble_eq_true rfl) | (simp only [List.length_map, List.length_append, List.length_cons, List.length_nil]; omega) | fail)
local macro_rules | `(tactic| tm_at "pre") => `(tactic| first | with_reducible assumption | trivial | omega | (refine ⟨?_, ?_⟩ <;> tm_at "pre") | fail)
local macro_rules | `(tactic| tm_at "step") => `(tactic| first
  | (with_reducible refine' h_ixTi ?k1 ?k2 ?_; (case k1 => tm_at "dt"); (case k2 => tm_at "at"))
  | (with_reducible refine' h_ixTs ?k1 ?k2 ?_; (case k1 => tm_at "dt"); (case k2 => tm_at "at"))
  | (with_reducible refine' h_ixTb ?k1 ?k2 ?_; (case k1 => tm_at "dt"); (case k2 => tm_at "at"))
  | (with_reducible refine' h_ixTn ?k1 ?k2 ?_; (case k1 => tm_at "dt"); (case k2 => tm_at "at"))
  | (with_reducible refine' h_ixT ?k0 ?k1 ?k2 ?_; (case k0 => with_reducible assumption); (case k1 => tm_at "dt"); (case k2 => tm_at "at"); intro x_ hd_ hs_)
  | (with_reducible refine' h_ixLi ?k0 ?k1 ?k2 ?_; (case k0 => with_reducible assumption); (case k1 => tm_at "lr"); (case k2 => tm_at "at"))
  | (with_reducible refine' h_ixLs ?k0 ?k1 ?k2 ?_; (case k0 => with_reducible assumption); (case k1 => tm_at "lr"); (case k2 => tm_at "at"))
  | (with_reducible refine' h_ixLb ?k0 ?k1 ?k2 ?_; (case k0 => with_reducible assumption); (case k1 => tm_at "lr"); (case k2 => tm_at "at"))
  | (with_reducible refine' h_ixL ?k0 ?k1 ?k2 ?_; (case k0 => with_reducible assumption); (case k1 => tm_at "lr"); (case k2 => tm_at "at"); intro x_ hd_ hs_)
  | (with_reducible refine' h_gtup ?k1 ?k2 ?_; (case k1 => tm_at "dt"); (case k2 => k_dflt rfl); intro xs_ hq_)
  | (with_reducible refine' h_gci ?k1 ?_; (case k1 => with_reducible assumption); intro xs_ hq_)
  | (with_reducible refine' h_gcs ?k1 ?_; (case k1 => with_reducible assumption); intro xs_ hq_)
  | (with_reducible refine' h_gcb ?k1 ?_; (case k1 => with_reducible assumption); intro xs_ hq_)
  | (with_reducible refine' h_gcn ?k1 ?_; (case k1 => with_reducible assumption); intro xs_ hq_)
  | (with_reducible refine' h_gc ?k0 ?k1 ?_; (case k0 => with_reducible assumption); (case k1 => with_reducible assumption); intro x_ xs_ hq_ hs_)
  | (with_reducible refine' h_gn ?k1 ?_; (case k1 => with_reducible assumption))
  | (with_reducible refine' h_lenL ?k1 ?_; (case k1 => tm_at "lr"))
  | (with_reducible refine' h_lenT ?k1 ?_; (case k1 => tm_at "dt"))
  | (with_reducible refine' h_tup ?k0 ?k1 ?k2 ?_; (case k0 => with_reducible assumption); (case k1 => k_dflt (exact Nat.le_of_ble_eq_true rfl)); (case k2 => tm_at "dts"); intro p_ H_ hs_)
  | (with_reducible refine' h_lst ?k0 ?k1 ?k2 ?_; (case k0 => with_reducible assumption); (case k1 => k_dflt (exact Nat.le_of_ble_eq_true rfl)); (case k2 => tm_at "dts"); intro p_ H_ hs_)
  | (with_reducible refine' h_tupO ?k0 ?k1 ?_; (case k0 => with_reducible assumption); (case k1 => k_dflt (exact Nat.le_of_ble_eq_true rfl)); intro p_ H_ hs_)
  | (with_reducible refine' h_lstO ?k0 ?k1 ?_; (case k0 => with_reducible assumption); (case k1 => k_dflt (exact Nat.le_of_ble_eq_true rfl)); intro p_ H_ hs_)
  | fail)
local macro_rules | `(tactic| tm_at "step") => `(tactic| first
  | (with_reducible refine' h_bmL ?k0 ?k1 ?_; (case k0 => with_reducible assumption); (case k1 => tm_at "loc"))
  | (with_reducible refine' h_app ?k0 ?k1 ?k2 ?k3 ?_; (case k0 => with_reducible assumption); (case k1 => tm_at "loc"); (case k2 => tm_at "dt"); (case k3 => tm_at "sz"); intro H_ hs_)
  | (with_reducible refine' h_setL ?k0 ?k1 ?k2 ?k3 ?_; (case k0 => with_reducible assumption); (case k1 => tm_at "loc"); (case k2 => tm_at "dt"); (case k3 => tm_at "at"); intro H_ hs_)
  | (with_reducible refine' h_slL ?k0 ?k1 ?_; (case k0 => with_reducible assumption); (case k1 => tm_at "lr"); intro p_ H_ hs_)
  | (with_reducible refine' h_sl3 ?k0 ?k1 ?_; (case k0 => with_reducible assumption); (case k1 => tm_at "dt"); intro p_ H_ hs_)
  | (with_reducible refine' h_slf1 ?k0 ?k1 ?_; (case k0 => with_reducible assumption); (case k1 => tm_at "dt"); intro p_ H_ hs_)
  | (with_reducible refine' h_slT ?k0 ?k1 ?_; (case k0 => with_reducible assumption); (case k1 => tm_at "dt"); intro p_ H_ hs_)
  | (with_reducible refine' h_catLe ?k0 ?k1 ?k2 ?k3 ?k4 ?_; (case k0 => with_reducible assumption); (case k1 => tm_at "lr"); (case k2 => tm_at "lr"); (case k3 => tm_at "sz"); (case k4 => ((try simp only [List.cons_append, List.nil_append]); k_dflt rfl)); intro p_ H_ hs_)
  | (with_reducible refine' h_catTe ?k0 ?k1 ?k2 ?k3 ?k4 ?_; (case k0 => with_reducible assumption); (case k1 => tm_at "dt"); (case k2 => tm_at "dt"); (case k3 => tm_at "sz"); (case k4 => ((try simp only [List.cons_append, List.nil_append]); k_dflt rfl)); intro p_ H_ hs_)
  | (with_reducible refine' h_extL ?k0 ?k1 ?k2 ?k3 ?_; (case k0 => with_reducible assumption); (case k1 => tm_at "loc"); (case k2 => tm_at "lr"); (case k3 => tm_at "sz"); intro H_ hs_)
  | (with_reducible refine' h_tupOfL ?k0 ?k1 ?_; (case k0 => with_reducible assumption); (case k1 => tm_at "lr"); intro p_ H_ hs_)
  | (with_reducible refine' h_tupOfT ?k1 ?_; (case k1 => tm_at "dt"))
  | (with_reducible refine' h_listOfL ?k0 ?k1 ?_; (case k0 => with_reducible assumption); (case k1 => tm_at "lr"); intro p_ H_ hs_)
  | (with_reducible refine' h_listOfT ?k0 ?k1 ?_; (case k0 => with_reducible assumption); (case k1 => tm_at "dt"); intro p_ H_ hs_)
  | (with_reducible refine' h_eq ?k1 ?k2 ?k3 ?_; (case k1 => tm_at "da"); (case k2 => tm_at "da"); (case k3 => tm_at "dep"))
  | (with_reducible refine' h_ne ?k1 ?k2 ?k3 ?_; (case k1 => tm_at "da"); (case k2 => tm_at "da"); (case k3 => tm_at "dep"))
  | (with_reducible refine' h_inL ?k1 ?k2 ?k3 ?_; (case k1 => tm_at "dt"); (case k2 => tm_at "da"); (case k3 => tm_at "dep"))
  | (with_reducible refine' h_niL ?k1 ?k2 ?k3 ?_; (case k1 => tm_at "dt"); (case k2 => tm_at "da"); (case k3 => tm_at "dep"))
  | (with_reducible refine' h_inT ?k1 ?k2 ?k3 ?_; (case k1 => tm_at "dt"); (case k2 => tm_at "dt"); (case k3 => tm_at "dep"))
  | (with_reducible refine' h_niT ?k1 ?k2 ?k3 ?_; (case k1 => tm_at "dt"); (case k2 => tm_at "dt"); (case k3 => tm_at "dep"))
  | with_reducible refine u_chain ?_
  | (with_reducible refine' h_min4 ?k1 ?_; (case k1 => tm_at "dt"); intro m_ h1_ h2_ h3_ h4_ h5_)
  | (with_reducible refine' h_iL ?k1 ?_; (case k1 => tm_at "lr"))
  | (with_reducible refine' h_iT ?k1 ?_; (case k1 => tm_at "dt"))
  | (with_reducible refine' lcE ?k1 ?k2 ?k3 ?k4 ?k5 ?_; (case k1 => tm_at "wk"); (case k2 => tm_at "zs"); (case k3 => omega); (case k4 => omega); (case k5 => tm_at "dt"))
  | (with_reducible refine' lcS ?k1 ?k2 ?k3 ?_; (case k1 => tm_at "wk"); (case k2 => tm_at "zs"); (case k3 => omega))
  | with_reducible refine u_iA ?_
  | (with_reducible refine' f_repG ?k1 ?k2 ?k3 ?_; (case k1 => omega); (case k2 => omega); (case k3 => omega); intro z_ hz_)
  | (with_reducible refine' k_vA ?k0 ?k1 ?k2 ?_; (case k0 => with_reducible assumption); (case k1 => tm_at "dts"); (case k2 => tm_at "mono"))
  | (with_reducible refine' k_wA ?k0 ?k1 ?k2 ?k3 ?_; (case k0 => with_reducible assumption); (case k1 => tm_at "loc"); (case k2 => tm_at "dts"); (case k3 => tm_at "mono"))
  | (with_reducible refine' k_vlA ?k0 ?k1 ?k2 ?_; (case k0 => with_reducible assumption); (case k1 => tm_at "dts"); (case k2 => tm_at "mono"))
  | (with_reducible refine' k_wlA ?k0 ?k1 ?k2 ?k3 ?_; (case k0 => with_reducible assumption); (case k1 => tm_at "loc"); (case k2 => tm_at "dts"); (case k3 => tm_at "mono"))
  | (with_reducible refine ret_int ?_; intro H_ hs_)
  | (with_reducible refine ret_str ?_; intro H_ hs_)
  | (with_reducible refine ret_bl ?_; intro H_ hs_)
  | (with_reducible refine ret_non ?_; intro H_ hs_)
  | (with_reducible refine ret_any ?_; intro v_ Z_ H_ hz_ hs_)
  | (with_reducible refine retL ?_; intro p_ Z_ H_ hz_ hs_)
  | fail)
local macro_rules | `(tactic| tm_at "step") => `(tactic| first
  | with_reducible refine u_isNi ?_
  | with_reducible refine u_isNb ?_
  | with_reducible refine u_isNs ?_
  | with_reducible refine u_isi (.base (.str _)) kB_sb ?_
  | with_reducible refine u_isi (.base (.str _)) kB_ss ?_
  | with_reducible refine u_isi (.base (.str _)) kB_si ?_
  | with_reducible refine u_isi (.base (.bl _)) kB_bs ?_
  | with_reducible refine u_isi (.base (.bl _)) kB_bi ?_
  | with_reducible refine u_isi (.base (.int _)) kB_is ?_
  | (with_reducible refine' u_isi (ty_tup ?k1) kB_tt ?_; (case k1 => tm_at "dt"))
  | (with_reducible refine' u_isi (ty_tup ?k1) kB_tl ?_; (case k1 => tm_at "dt"))
  | (with_reducible refine' u_isi (ty_tup ?k1) kB_tb ?_; (case k1 => tm_at "dt"))
  | (with_reducible refine' u_isi (ty_tup ?k1) kB_ts ?_; (case k1 => tm_at "dt"))
  | (with_reducible refine' u_isi (ty_tup ?k1) kB_ti ?_; (case k1 => tm_at "dt"))
  | (with_reducible refine' u_isi (ty_lst ?k1) kB_lt ?_; (case k1 => tm_at "lr"))
  | (with_reducible refine' u_isi (ty_lst ?k1) kB_ll ?_; (case k1 => tm_at "lr"))
  | (with_reducible refine' u_isi (ty_lst ?k1) kB_lb ?_; (case k1 => tm_at "lr"))
  | (with_reducible refine' u_isi (ty_lst ?k1) kB_ls ?_; (case k1 => tm_at "lr"))
  | (with_reducible refine' u_isi (ty_lst ?k1) kB_li ?_; (case k1 => tm_at "lr"))
  | fail)
local macro_rules | `(tactic| tm_at "anyi") => `(tactic| (intro d hd; simp only [List.mem_cons, List.not_mem_nil, or_false] at hd; repeat' (rcases hd with rfl | hd); all_goals (first | exact ⟨_, rfl⟩ | (subst hd; exact ⟨_, rfl⟩))))
local macro_rules | `(tactic| tm_at "len") => `(tactic| (simp only [List.length_cons, List.length_nil, List.length_map, List.length_append]; omega))
local macro_rules | `(tactic| tm_at "step") => `(tactic| first
  | with_reducible refine u_dget2 ?_
  | with_reducible refine u_dput ?_
  | (with_reducible refine' h_dnewT ?k0 ?_; (case k0 => with_reducible assumption); intro p_ H_ hs_)
  | (with_reducible refine' h_dgA ?k0 ?k1 ?_; (case k0 => with_reducible assumption); (case k1 => tm_at "loc"))
  | fail)
local macro_rules | `(tactic| tm_at "finv") => `(tactic| (with_reducible refine' fin_v ?k1 ?k2 ?_; (case k1 => with_reducible assumption); (case k2 => tm_at "dt")))
local macro_rules | `(tactic| tm_at "finw") => `(tactic| (with_reducible refine' fin_w ?k1 ?k2 ?k3 ?_; (case k1 => with_reducible assumption); (case k2 => tm_at "loc"); (case k3 => tm_at "dt")))
local macro_rules | `(tactic| tm_at "finvl") => `(tactic| (with_reducible refine' fin_vl ?k1 ?k2 ?_; (case k1 => with_reducible assumption); (case k2 => tm_at "loc")))

local macro_rules | `(tactic| tm_at "step") => `(tactic| first | (with_reducible refine' k_draw ?k1 ?k2 ?_; (case k1 => tm_at "lp"); (case k2 => k_dflt omega); intro r_ H_ h0_ h1_ hk_ hp_) | fail)
local macro_rules | `(tactic| tm_at "step") => `(tactic| first | with_reducible refine k_int ?_ | fail)
local macro_rules | `(tactic| tm_at "step") => `(tactic| first | (with_reducible refine' k_pool ?k1 ?k2 ?_; (case k1 => tm_at "ls"); (case k2 => k_dflt (tm_at "side")); intro p_ H_ hn_ hk_ hp_) | fail)
local macro_rules | `(tactic| tm_at "step") => `(tactic| first | (with_reducible refine' h_draw ?k0 ?k1 ?k2 ?_; (case k0 => with_reducible assumption); (case k1 => tm_at "loc"); (case k2 => k_dflt omega); intro r_ H_ h0_ h1_ hs_) | fail)
local macro_rules | `(tactic| tm_at "ln") => `(tactic| first | with_reducible assumption | omega | (simp only [SX.S_len, Str.length_append]; omega) | fail)
local macro_rules | `(tactic| tm_at "lg") => `(tactic| first | with_reducible assumption | (with_reducible refine' bt_log ?k1; (case k1 => tm_at "bm")) | fail)
local macro_rules | `(tactic| tm_at "step") => `(tactic| first
  | with_reducible refine u_eqS ?_
  | with_reducible refine u_neS ?_
  | with_reducible refine bm_str ?_
  | with_reducible refine u_bm0 ?_
  | with_reducible refine u_find ?_
  | with_reducible refine u_asc ?_
  | with_reducible refine u_dgt ?_
  | with_reducible refine u_inS ?_
  | with_reducible refine u_niS ?_
  | with_reducible refine u_isNn ?_
  | with_reducible refine u_isNr ?_
  | (with_reducible refine' u_partS ?k1 ?k2 ?_; (case k1 => k_dflt rfl); (case k2 => tm_at "ln"); intro p_ H_ hn_ hk_ ho_)
  | (with_reducible refine' u_rmp ?k1 ?_; (case k1 => tm_at "ln"))
  | (with_reducible refine' u_addS ?k1 ?_; (case k1 => tm_at "ln"))
  | (with_reducible refine' u_lenS ?k1 ?_; (case k1 => tm_at "ln"))
  | (with_reducible refine' u_strI ?k1 ?_; (case k1 => tm_at "lg"))
  | (with_reducible refine' u_slX ?k1 ?_; (case k1 => tm_at "ln"))
  | with_reducible refine u_iS ?_
  | with_reducible refine u_iSq ?_
  | with_reducible refine u_join ?_
  | with_reducible refine js_cons ?_
  | with_reducible refine js_nil ?_
  | (with_reducible refine' jsQ ?k1 ?_; (case k1 => tm_at "ln"))
  | with_reducible refine u_fmt ?_
  | (with_reducible refine' fmtI ?k1 ?_; (case k1 => tm_at "lg"))
  | fail)

local macro_rules | `(tactic| tm_at "step") => `(tactic| first | (with_reducible refine' sp_is_name ?k1 ?_; (case k1 => tm_at "pre")) | fail)
local macro_rules | `(tactic| tm_at "step") => `(tactic| first | (with_reducible refine' sp_l_is_name ?k1 ?_; (case k1 => tm_at "pre")) | fail)
local macro_rules | `(tactic| tm_at "step") => `(tactic| first | (with_reducible refine sp_l_name ?_; intro z_ hr_) | fail)
local macro_rules | `(tactic| tm_at "step") => `(tactic| first | (with_reducible refine sp_l_names ?_; intro zs_ hr_) | fail)
local macro_rules | `(tactic| tm_at "step") => `(tactic| first | (with_reducible refine' sp_l_odd_name ?k1 ?_; (case k1 => tm_at "pre"); intro z_ hr_) | fail)
local macro_rules | `(tactic| tm_at "step") => `(tactic| first | (with_reducible refine sp_l_book ?_; intro s_ f_ cs_ hr_) | fail)
local macro_rules | `(tactic| tm_at "step") => `(tactic| first | (with_reducible refine' sp_l_more_options ?k1 ?_; (case k1 => tm_at "pre"); intro cs2_ hr_) | fail)
local macro_rules | `(tactic| tm_at "step") => `(tactic| first | (with_reducible refine' sp_l_bent ?k1 ?_; (case k1 => tm_at "pre"); intro s2_ f2_ cs2_ hr_) | fail)
/-! what a book is -/
abbrev eChL (c : Ch) : PyData := .list [.str c.nm, .int c.h, .int c.a, .int c.t, .int c.r]
abbrev eK (k : Str × Int × Int) : PyData := .tuple [.str k.1, .int k.2.1, .int k.2.2]
def sameK (c d : Ch) : Bool := decide (c.nm = d.nm ∧ c.h = d.h ∧ c.a = d.a)
def okCh (s : Int) (c : Ch) : Bool := isName c.nm && decide (0 ≤ c.h ∧ c.h < s ∧ 0 ≤ c.t ∧ c.t < s ∧ 0 ≤ c.a ∧ c.a ≤ 7 ∧ 0 ≤ c.r ∧ c.r ≤ 7)
def goodG (cs : List Ch) : Bool := cs.all fun c => decide ((cs.filter (fun d => decide (d = c))).length ≤ 1) && decide ((cs.filter (fun d => sameK d c)).length ≤ 4)
def headOk (s f : Int) : Bool := decide (1 ≤ s ∧ s ≤ 600 ∧ 0 ≤ f ∧ f < s)
def isBook (s f : Int) (cs : List Ch) : Bool := headOk s f && (cs.all (okCh s) && goodG cs)
theorem eCh_inj {c d : Ch} (h : eCh c = eCh d) : c = d := by
  cases c; cases d
  simp only [eCh, PyData.tuple.injEq, List.cons.injEq, PyData.str.injEq, PyData.int.injEq, and_true] at h
  obtain ⟨rfl, rfl, rfl, rfl, rfl⟩ := h
  rfl
theorem eqv_ch {c d : Ch} : PyData.eqv (eCh c) (eCh d) = decide (c = d) := by
  rw [Bool.eq_iff_iff, eqv_iff _ _ rfl rfl, decide_eq_true_iff]
  exact ⟨eCh_inj, fun h => by rw [h]⟩
theorem eqv_key {a b : Str} {i j k l : Int} : PyData.eqv (.tuple [.str a, .int i, .int j]) (.tuple [.str b, .int k, .int l]) = decide (a = b ∧ i = k ∧ j = l) := by
  rw [Bool.eq_iff_iff, eqv_iff _ _ rfl rfl, decide_eq_true_iff]
  simp
theorem mem_two {α : Type} [DecidableEq α] {l : List α} {c : α} (h : c ∈ l) : 1 ≤ (l.filter (fun d => decide (d = c))).length := by
  have : c ∈ l.filter (fun d => decide (d = c)) := List.mem_filter.mpr ⟨h, by simp⟩
  exact List.length_pos_of_mem this
def gstep (l : List Ch) (c : Ch) : Prop := c ∉ l ∧ (l.filter (fun d => sameK d c)).length < 4
theorem goodG_iff {cs : List Ch} : goodG cs = true ↔ ∀ c ∈ cs, (cs.filter (fun d => decide (d = c))).length ≤ 1 ∧ (cs.filter (fun d => sameK d c)).length ≤ 4 := by
  unfold goodG
  simp only [List.all_eq_true, Bool.and_eq_true, decide_eq_true_eq]
theorem sameK_iff {c d : Ch} : sameK c d = true ↔ c.nm = d.nm ∧ c.h = d.h ∧ c.a = d.a := by unfold sameK; rw [decide_eq_true_eq]
theorem good_snoc {l : List Ch} {c : Ch} : goodG (l ++ [c]) = true ↔ goodG l = true ∧ gstep l c := by
  rw [goodG_iff, goodG_iff]
  unfold gstep
  simp only [List.filter_append, List.length_append]
  have s1 : ∀ d : Ch, ([c].filter (fun x => decide (x = d))).length = if c = d then 1 else 0 := fun d => by by_cases h : c = d <;> simp [h]
  have s2 : ∀ d : Ch, ([c].filter (fun x => sameK x d)).length = if sameK c d = true then 1 else 0 := fun d => by cases h : sameK c d <;> simp [h]
  have cc : sameK c c = true := sameK_iff.mpr ⟨rfl, rfl, rfl⟩
  constructor
  · intro h
    refine ⟨fun d hd => ?_, fun hm => ?_, ?_⟩
    · have := h d (by simp [hd])
      omega
    · have := (h c (by simp)).1
      rw [s1, if_pos rfl] at this
      have := mem_two hm
      omega
    · have := (h c (by simp)).2
      rw [s2, if_pos cc] at this
      omega
  · rintro ⟨h1, h2, h3⟩ d hd
    rw [s1, s2]
    rcases List.mem_append.mp hd with y | y
    · have q := h1 d y
      refine ⟨?_, ?_⟩
      · rw [if_neg (fun z => h2 (by rw [z]; exact y))]; omega
      · cases hk : sameK c d with
        | false => simp; exact q.2
        | true =>
          have e : l.filter (fun x => sameK x d) = l.filter (fun x => sameK x c) := by
            refine List.filter_congr fun x _ => ?_
            have k := sameK_iff.mp hk
            unfold sameK
            rw [k.1, k.2.1, k.2.2]
          rw [e]
          simp
          omega
    · rw [List.mem_singleton.mp y, if_pos rfl, if_pos cc]
      have e : l.filter (fun x => decide (x = c)) = [] := List.filter_eq_nil_iff.mpr fun x hx z => h2 (by
        have : x = c := by simpa using z
        rw [← this]; exact hx)
      rw [e]
      refine ⟨by simp, by omega⟩
theorem good_take {cs : List Ch} (h : goodG cs = true) (i : Nat) : goodG (cs.take i) = true := by
  rw [goodG_iff] at h ⊢
  intro c hc
  have q := h c (List.mem_of_mem_take hc)
  have s1 : ((cs.take i).filter (fun d => decide (d = c))).length ≤ (cs.filter (fun d => decide (d = c))).length := ((List.take_sublist i cs).filter _).length_le
  have s2 : ((cs.take i).filter (fun d => sameK d c)).length ≤ (cs.filter (fun d => sameK d c)).length := ((List.take_sublist i cs).filter _).length_le
  omega
theorem okCh_iff {s : Int} {c : Ch} : okCh s c = true ↔ isName c.nm = true ∧ 0 ≤ c.h ∧ c.h < s ∧ 0 ≤ c.t ∧ c.t < s ∧ 0 ≤ c.a ∧ c.a ≤ 7 ∧ 0 ≤ c.r ∧ c.r ≤ 7 := by unfold okCh; rw [Bool.and_eq_true, decide_eq_true_eq]
theorem isBook_iff {s f : Int} {cs : List Ch} : isBook s f cs = true ↔ (1 ≤ s ∧ s ≤ 600 ∧ 0 ≤ f ∧ f < s) ∧ ∀ c ∈ cs, okCh s c = true ∧ (cs.filter (fun d => decide (d = c))).length ≤ 1 ∧ (cs.filter (fun d => sameK d c)).length ≤ 4 := by
  unfold isBook headOk
  rw [Bool.and_eq_true, Bool.and_eq_true, decide_eq_true_eq, goodG_iff, List.all_eq_true]
  constructor
  · rintro ⟨h, h1, h2⟩
    exact ⟨h, fun c hc => ⟨h1 c hc, h2 c hc⟩⟩
  · rintro ⟨h, h1⟩
    exact ⟨h, fun c hc => (h1 c hc).1, fun c hc => (h1 c hc).2⟩
theorem filt_more {cs : List Ch} {i : Nat} {d : Ch} (h : cs[i]? = some d) (p : Ch → Bool) : ((cs.take (i + 1)).filter p).length = ((cs.take i).filter p).length + if p d = true then 1 else 0 := by
  rw [_root_.Fr.take_more h, List.filter_append, List.length_append]
  cases e : p d <;> simp [e]
/-- handed in, one way or another -/
def hand (cs : List Ch) (how : Int) : PyData := if how = 0 then .list (cs.map eChL) else if how = 1 then .list (cs.map eCh) else if how = 2 then .tuple (cs.map eChL) else .tuple (cs.map eCh)
/-! no list within: nothing need stand still -/
mutual
def noL : PyData → Bool
  | .none | .int _ | .str _ | .bool _ => true
  | .dict _ | .list _ => false
  | .tuple xs => noLs xs
def noLs : List PyData → Bool
  | [] => true
  | x :: xs => noL x && noLs xs
end
section
variable {K : PySem.W.Frag} {Z Z' : List Addr} {H : Hp}
mutual
theorem dt_noZ : ∀ (d : PyData) (v : V), noL d = true → Dt K Z H v d → Dt K Z' H v d
  | .none, _, _, h => by cases h; exact .non
  | .bool _, _, _, h => by cases h; exact .bl _
  | .int _, _, _, h => by cases h; exact .int _
  | .str _, _, _, h => by cases h; exact .str _
  | .list ds, _, n, h => by simp [noL] at n
  | .tuple ds, _, n, h => by
    cases h with
    | tup t a => exact .tup t (dts_noZ ds _ (by simpa [noL] using n) a)
  | .dict _, _, _, h => by cases h
theorem dts_noZ : ∀ (ds : List PyData) (vs : List V), noLs ds = true → Dts K Z H vs ds → Dts K Z' H vs ds
  | [], _, _, h => by cases h; exact .nil
  | d :: ds, _, n, h => by
    simp only [noLs, Bool.and_eq_true] at n
    cases h with
    | cons h1 h2 => exact .cons (dt_noZ d _ n.1 h1) (dts_noZ ds _ n.2 h2)
end
end
theorem noLs_map {α : Type} (f : α → PyData) (h : ∀ x, noL (f x) = true) : ∀ l : List α, noLs (l.map f) = true
  | [] => rfl
  | x :: r => by simp [noLs, h x, noLs_map f h r]
abbrev S_l_is_book : List PyData → (PyData → Prop) → Prop := fun ds φ => ∃ (s f : Int), ∃ (cs : List Ch), ds = [eBk s f cs] ∧ (Sml 60 cs) ∧ (φ (.bool (isBook s f cs)))
theorem sp_l_is_book {φ : PyData → Prop} {s f : Int} {cs : List Ch} (p_ : Sml 60 cs) (k_ : φ (.bool (isBook s f cs))) : S_l_is_book [eBk s f cs] φ := ⟨s, f, cs, rfl, p_, k_⟩
local macro_rules | `(tactic| tm_at "step") => `(tactic| first | (with_reducible refine' sp_l_is_book ?k1 ?_; (case k1 => tm_at "pre")) | fail)
abbrev S_l_keys : List PyData → (List PyData → Prop) → Prop := fun ds φ => ∃ (cs : List Ch), ds = [.list (cs.map eCh)] ∧ (Sml 60 cs) ∧ (∀ (ks : List (Str × Int × Int)), (ks.length ≤ 400) → φ (ks.map eK))
theorem sp_l_keys {φ : List PyData → Prop} {cs : List Ch} (p_ : Sml 60 cs) (k_ : ∀ (ks : List (Str × Int × Int)), (ks.length ≤ 400) → φ (ks.map eK)) : S_l_keys [.list (cs.map eCh)] φ := ⟨cs, rfl, p_, k_⟩
local macro_rules | `(tactic| tm_at "step") => `(tactic| first | (with_reducible refine' sp_l_keys ?k1 ?_; (case k1 => tm_at "pre"); intro ks_ hr_) | fail)
def spHand (K : PySem.W.Frag) : Sp := fun vs H Q _ => ∃ (Z : List Addr) (cs : List Ch) (how : Int) (v : V), vs = [v, .int how] ∧ Dt K Z H v (.list (cs.map eCh)) ∧ Sml 60 cs ∧ ∀ x H' Zr, Kp [] H H' → (∀ z ∈ Zr, H z = none) → (∀ z ∈ Zr, ∃ o, H' z = some o) → Dt K Zr H' x (hand cs how) → Q x H'
def spSpoil (K : PySem.W.Frag) : Sp := fun vs H Q _ => ∃ (Zr : List Addr) (cs : List Ch) (how : Int) (x : V), vs = [x, .int how] ∧ Dt K Zr H x (hand cs how) ∧ (0 ≤ how ∧ Sml 60 cs) ∧ ∀ H', Kp Zr H H' → Q .non H'

section
variable {P : Program} {w : World} {K : PySem.W.Frag} {mg : Str → Option Value} {base : Heap} {CPlainBook COddsError CBadShare CBadText CBadBook CBadMove CBadProgram CBadPlan CUnfit CTooLarge CBadEdit : Addr}
theorem ok_l_is_book (T : Txt K mg CPlainBook COddsError CBadShare CBadText CBadBook CBadMove CBadProgram CBadPlan CUnfit CTooLarge CBadEdit) : Fc P w K mg base CX0 2 "_law_is_book" ["book"] (spV K S_l_is_book) := by
  refine fc_of T.d_l_is_book sc_l_is_book (fun vs H Q E h => by obtain ⟨Z, ds, zl, q, s, f, cs, rfl, pre, k⟩ := h; have := q.length; rw [this]; rfl) (fun _ _ _ _ _ _ us hl => match us, hl with | [_], _ => rfl) fun f cdv A outer s H vs Q E hr h => ⟨_, (pss_cons (ps_asg (pv 0) (pgTK K 3 (by rfl) (pgs_cons (pg_name (i := 1) sc_l_is_book.nd rfl (Or.inl rfl)) (pgs_cons (pg_name (i := 2) sc_l_is_book.nd rfl (Or.inl rfl)) (pgs_cons (pg_name (i := 3) sc_l_is_book.nd rfl (Or.inl rfl)) pgs_nil)))))
 (pss_cons (ps_if (PW.pt (pw_or (pt_cmpR op_lt (pv 1) pe_int (nomark _)) (pw_or (pt_cmpR op_gt (pv 1) pe_int (nomark _)) (pw_or (pt_cmpR op_lt (pv 2) pe_int (nomark _)) (pw_or1 (pt_cmpR op_ge (pv 2) (pv 1) (nomark _)))))))
 (pss_one (ps_ret pe_bl))
 pss_nil)
 (pss_cons (ps_for PassesOwn.never rfl (piLK K (pv 3)) (pg_name (i := 4) sc_l_is_book.nd rfl (Or.inr rfl))
 (pss_cons (ps_if (PW.pt (pw_or (pt_not (pt_val (pe_fc (ok_l_is_name T) pass0 (hr.mono (by omega)) (pa_cons (pe_ix (ixtK K) (pv 4) pe_int (fun _ _ => rfl)) pa_nil)))) (pw_or (pt_cmpR op_lt (pe_callB (cr_minT rfl hr.units K) (by rfl) T.n_min b_min (pa_cons (pe_slice (sltAK K) (pv 4) (po_some pe_int) po_none) pa_nil)) pe_int (nomark _)) (pw_or (pt_cmpR op_ge (pe_callB (c_max2 rfl) (by rfl) T.n_max b_max (pa_cons (pe_ix (ixtK K) (pv 4) pe_int (fun _ _ => rfl)) (pa_cons (pe_ix (ixtK K) (pv 4) pe_int (fun _ _ => rfl)) pa_nil))) (pv 1) (nomark _)) (pw_or1 (pt_cmpR op_gt (pe_callB (c_max2 rfl) (by rfl) T.n_max b_max (pa_cons (pe_ix (ixtK K) (pv 4) pe_int (fun _ _ => rfl)) (pa_cons (pe_ix (ixtK K) (pv 4) pe_int (fun _ _ => rfl)) pa_nil))) pe_int (nomark _)))))))
 (pss_one (ps_ret pe_bl))
 pss_nil)
 (pss_one (ps_if (PW.pt (pw_or (pt_cmpR op_gt (pe_callB (lenK K) (by rfl) T.n_len b_len (pa_cons (pe_lc (own := [("d", 5)]) (g := (gName 5)) rfl sc_l_is_book.nd (piLK K (pv 3)) (blkOk_by (own := [("d", 5)]) (N := ["book", "states", "first", "choices", "c", "d"]) (sc := defScope s_l_is_book) (by decide +kernel)) (fun _ _ _ _ _ => (pg_name (i := 5) sc_l_is_book.nd rfl (Or.inl rfl))) (fun _ _ _ _ _ => (pts_one (pt_cmpR (eqAK K hr.units) (pv 5) (pv 4) (nomark _)))) (fun _ _ _ _ _ => (pv 5))) pa_nil)) pe_int (nomark _)) (pw_or1 (pt_cmpR op_gt (pe_callB (lenK K) (by rfl) T.n_len b_len (pa_cons (pe_lc (own := [("d", 5)]) (g := (gName 5)) rfl sc_l_is_book.nd (piLK K (pv 3)) (blkOk_by (own := [("d", 5)]) (N := ["book", "states", "first", "choices", "c", "d"]) (sc := defScope s_l_is_book) (by decide +kernel)) (fun _ _ _ _ _ => (pg_name (i := 5) sc_l_is_book.nd rfl (Or.inl rfl))) (fun _ _ _ _ _ => (pts_one (pt_cmpR (eqAK K hr.units) (pe_slice (sltAK K) (pv 5) po_none (po_some pe_int)) (pe_slice (sltAK K) (pv 4) po_none (po_some pe_int)) (nomark _)))) (fun _ _ _ _ _ => (pv 5))) pa_nil)) pe_int (nomark _)))))
 (pss_one (ps_ret pe_bl))
 pss_nil))))
 (pss_one (ps_ret pe_bl))))), ?_⟩
  obtain ⟨Z, ds, zl, q, s, f, cs, rfl, pre, k⟩ := h
  have hs := in_v zl q
  obtain ⟨v0, _, e_, h2⟩ := hs.arg; clear hs; subst e_; have hs := h2; clear h2
  obtain ⟨e_, h2⟩ := hs.argN; clear hs; subst e_; have hs := h2; clear h2
  have hcl := pre.1
  have lc : (cs.map eCh).length = cs.length := List.length_map _
  have nb0 : ¬ (1 ≤ s ∧ s ≤ 600 ∧ 0 ≤ f ∧ f < s) → isBook s f cs = false := fun h => by
    rw [← Bool.not_eq_true, isBook_iff]; exact fun z => h z.1
  have nb1 : ∀ c ∈ cs, ¬ (okCh s c = true ∧ (cs.filter (fun d => decide (d = c))).length ≤ 1 ∧ (cs.filter (fun d => sameK d c)).length ≤ 4) → isBook s f cs = false := fun c hc h => by
    rw [← Bool.not_eq_true, isBook_iff]; exact fun z => h (z.2 c hc)
  tm_at "go"
  · tm_at "finv"
    rw [nb0 (by omega)] at k; exact k
  · tm_at "finv"
    rw [nb0 (by omega)] at k; exact k
  · tm_at "finv"
    rw [nb0 (by omega)] at k; exact k
  · tm_at "finv"
    rw [nb0 (by omega)] at k; exact k
  · rename_i xv xs2 hq2 hs1 g1 g2 g3 g4
    refine l_dl (cs.map eCh) (fun i σ H' => ∃ (u1 u2 : Option V) (Z2 : List Addr), σ = [some v0, some (.int s), some (.int f), some xv, u1, u2] ∧ (∀ c ∈ cs.take i, okCh s c = true ∧ (cs.filter (fun d => decide (d = c))).length ≤ 1 ∧ (cs.filter (fun d => sameK d c)).length ≤ 4) ∧ Hs K ⟨H, [], Z⟩ Z2 H' [] [([xv], [.list (cs.map eCh)]), ([v0], [eBk s f cs])]) ?_ ?_ ?_ ?_
    · exact ⟨none, none, _, rfl, fun c hc => (by simp at hc), hs1⟩
    · rintro i σ H' hi ⟨u1, u2, Z2, rfl, _, hs2⟩
      exact ⟨Z2, by tm_at "lr"⟩
    · rintro i d x σ H' hd hx ⟨u1, u2, Z2, rfl, hall, hs2⟩
      obtain ⟨c, hc, rfl⟩ := at_map hd
      have hcm : c ∈ cs := List.mem_of_getElem? hc
      have hnl := pre.2 c hcm
      have hs3 := hs2.fact1 (hx Z2 (by tm_at "lr"))
      tm_at "run"
      · tm_at "finv"
        rw [nb1 c hcm (fun z => by have := okCh_iff.mp z.1; omega)] at k; exact k
      · tm_at "finv"
        rw [nb1 c hcm (fun z => by have := okCh_iff.mp z.1; omega)] at k; exact k
      · tm_at "finv"
        rw [nb1 c hcm (fun z => by have := okCh_iff.mp z.1; omega)] at k; exact k
      · rename_i hbn _ _ _ m1 _ _ _ _ _ _ m2 _ _ _ _ m3 _ _ _ _
        refine h_lcL (cs.map eCh) (fun i acc => acc.length = ((cs.take i).filter (fun d => decide (d = c))).length) (by assumption) (fun D acc Z' H' h => by tm_at "lr") rfl (fun D i2 d x2 acc Z3 H9 hd2 hr hacc hz hs9 => ?_) (fun D acc Z3 H9 hr hacc hz hs9 => ?_)
        · obtain ⟨e, he, rfl⟩ := at_map hd2
          have hi2 : i2 < 100000 := by have := (List.getElem?_eq_some_iff.mp he).1; omega
          tm_at "run"
          · rename_i hb
            rw [eqv_ch, decide_eq_true_iff] at hb
            show _ = _
            rw [List.length_append, filt_more he, hr, if_pos (by simp [hb])]
            rfl
          · rename_i hb
            rw [eqv_ch, decide_eq_false_iff_not] at hb
            show _ = _
            rw [filt_more he, hr, if_neg (by simp [hb])]
            rfl
        · rw [lc, List.take_length] at hr
          tm_at "run"
          · tm_at "finv"
            rw [nb1 c hcm (fun z => by have := z.2.1; omega)] at k; exact k
          · rename_i hc1
            refine h_lcL (cs.map eCh) (fun i acc => acc.length = ((cs.take i).filter (fun d => sameK d c)).length) (by assumption) (fun D acc Z' H' h => by tm_at "lr") rfl (fun D i2 d x2 acc2 Z4 H10 hd2 hr2 hacc2 hz2 hs10 => ?_) (fun D acc2 Z4 H10 hr2 hacc2 hz2 hs10 => ?_)
            · obtain ⟨e, he, rfl⟩ := at_map hd2
              have hi2 : i2 < 100000 := by have := (List.getElem?_eq_some_iff.mp he).1; omega
              tm_at "run"
              · rename_i hb
                rw [eqv_key] at hb
                have hb : sameK e c = true := hb
                show _ = _
                rw [List.length_append, filt_more he, hr2, if_pos hb]
                rfl
              · rename_i hb
                rw [eqv_key] at hb
                show _ = _
                have hb : sameK e c = false := hb
                rw [filt_more he, hr2, if_neg (by simp [hb])]
                rfl
            · rw [lc, List.take_length] at hr2
              tm_at "run"
              · tm_at "finv"
                rw [nb1 c hcm (fun z => by have := z.2.2; omega)] at k; exact k
              · refine ⟨_, _, _, rfl, fun c2 hc2 => ?_, by tm_at "wk"⟩
                rw [_root_.Fr.take_more hc] at hc2
                rcases List.mem_append.mp hc2 with y | y
                · exact hall c2 y
                · rw [List.mem_singleton.mp y]
                  exact ⟨okCh_iff.mpr ⟨hbn, by omega, by omega, by omega, by omega, by omega, by omega, by omega, by omega⟩, by omega, by omega⟩
      · rename_i hb
        tm_at "finv"
        rw [nb1 c hcm (fun z => by have := (okCh_iff.mp z.1).1; rw [hb] at this; cases this)] at k; exact k
    · rintro σ H' ⟨u1, u2, Z2, rfl, hall, hs2⟩
      rw [lc, List.take_length] at hall
      tm_at "run"
      tm_at "finv"
      have e : isBook s f cs = true := isBook_iff.mpr ⟨⟨by omega, by omega, by omega, by omega⟩, hall⟩
      rw [e] at k; exact k
theorem ok_l_keys (T : Txt K mg CPlainBook COddsError CBadShare CBadText CBadBook CBadMove CBadProgram CBadPlan CUnfit CTooLarge CBadEdit) : Fc P w K mg base CX0 1 "_law_keys" ["choices"] (spVL K S_l_keys) := by
  refine fc_of T.d_l_keys sc_l_keys (fun vs H Q E h => by obtain ⟨Z, ds, zl, q, cs, rfl, pre, k⟩ := h; have := q.length; rw [this]; rfl) (fun _ _ _ _ _ _ us hl => match us, hl with | [_], _ => rfl) fun f cdv A outer s H vs Q E hr h => ⟨_, (pss_cons (ps_set (i := 1) sc_l_keys.nd rfl (Or.inl rfl) pe_str)
 (pss_cons (ps_for PassesOwn.never rfl (piLK K (pv 0)) (pg_name (i := 2) sc_l_keys.nd rfl (Or.inl rfl))
 (pss_one (ps_if (pt_cmpR op_ge (pe_callB c_lenS (by rfl) T.n_len b_len (pa_cons (pe_ix (ixtK K) (pv 2) pe_int (fun _ _ => rfl)) pa_nil)) (pe_callB c_lenS (by rfl) T.n_len b_len (pa_cons (pv 1) pa_nil)) (nomark _))
 (pss_one (ps_set (i := 1) sc_l_keys.nd rfl (Or.inl rfl) (pe_op o_addS (pe_ix (ixtK K) (pv 2) pe_int (fun _ _ => rfl)) pe_str)))
 pss_nil)))
 (pss_cons (ps_set (i := 3) sc_l_keys.nd rfl (Or.inl rfl) (pe_lst (pa_cons (pe_tup (pa_cons (pv 1) (pa_cons pe_int (pa_cons pe_int pa_nil)))) pa_nil)))
 (pss_cons (ps_for PassesOwn.never rfl (piLK K (pv 0)) (pg_name (i := 2) sc_l_keys.nd rfl (Or.inl rfl))
 (pss_one (ps_set (i := 3) sc_l_keys.nd rfl (Or.inl rfl) (pe_op o_catL (pv 3) (pe_lst (pa_cons (pe_slice (sltAK K) (pv 2) po_none (po_some pe_int)) (pa_cons (pe_tup (pa_cons (pe_ix (ixtK K) (pv 2) pe_int (fun _ _ => rfl)) (pa_cons (pe_op op_add (pe_ix (ixtK K) (pv 2) pe_int (fun _ _ => rfl)) pe_int) (pa_cons (pe_ix (ixtK K) (pv 2) pe_int (fun _ _ => rfl)) pa_nil)))) (pa_cons (pe_tup (pa_cons (pe_ix (ixtK K) (pv 2) pe_int (fun _ _ => rfl)) (pa_cons (pe_ix (ixtK K) (pv 2) pe_int (fun _ _ => rfl)) (pa_cons (pe_op op_add (pe_ix (ixtK K) (pv 2) pe_int (fun _ _ => rfl)) pe_int) pa_nil)))) (pa_cons (pe_tup (pa_cons (pe_ix (ixtK K) (pv 2) pe_int (fun _ _ => rfl)) (pa_cons (pe_un un_neg pe_int) (pa_cons (pe_ix (ixtK K) (pv 2) pe_int (fun _ _ => rfl)) pa_nil)))) (pa_cons (pe_tup (pa_cons (pv 1) (pa_cons (pe_ix (ixtK K) (pv 2) pe_int (fun _ _ => rfl)) (pa_cons (pe_ix (ixtK K) (pv 2) pe_int (fun _ _ => rfl)) pa_nil)))) pa_nil))))))))))
 (pss_one (ps_ret (pv 3))))))), ?_⟩
  obtain ⟨Z, ds, zl, q, cs, rfl, pre, k⟩ := h
  have hs := in_v zl q
  obtain ⟨v0, _, e_, h2⟩ := hs.arg; clear hs; subst e_; have hs := h2; clear h2
  obtain ⟨e_, h2⟩ := hs.argN; clear hs; subst e_; have hs := h2; clear h2
  have la : (Str.ofString "a").length = 1 := by decide +kernel
  have hcl := pre.1
  have lc : (cs.map eCh).length = cs.length := List.length_map _
  tm_at "go"
  refine l_dl (cs.map eCh) (fun i σ H' => ∃ (st : Str) (u1 u3 : Option V), σ = [some v0, some (.str st), u1, u3] ∧ st.length ≤ 301 ∧ Hs K ⟨H, [], Z⟩ Z H' [] [([v0], [.list (cs.map eCh)])]) ?_ ?_ ?_ ?_
  · exact ⟨_, none, none, rfl, by omega, hs⟩
  · rintro i σ H' hi ⟨st, u1, u3, rfl, _, hs2⟩
    exact ⟨_, by tm_at "lr"⟩
  · rintro i d x σ H' hd hx ⟨st, u1, u3, rfl, hst, hs2⟩
    obtain ⟨c, hc, rfl⟩ := at_map hd
    have hnl := pre.2 c (List.mem_of_getElem? hc)
    have hs3 := hs2.fact1 (hx Z (by tm_at "lr"))
    tm_at "run"
    · exact ⟨_, _, _, rfl, by rw [Str.length_append, la]; omega, by tm_at "wk"⟩
    · exact ⟨_, _, _, rfl, hst, by tm_at "wk"⟩
  · rintro σ H' ⟨st, u1, u3, rfl, hst, hs2⟩
    tm_at "run"
    rename_i q Hq hsq
    refine l_dl (cs.map eCh) (fun i σ H' => ∃ (ks : List (Str × Int × Int)) (q : Addr) (u1 : Option V), σ = [some v0, some (.str st), u1, some (.ref q)] ∧ ks.length ≤ 1 + 5 * i ∧ Hs K ⟨H, [], Z⟩ Z H' [.dl K q (ks.map eK) true] [([v0], [.list (cs.map eCh)])]) ?_ ?_ ?_ ?_
    · exact ⟨[(st, 0, 0)], _, _, rfl, by simp, by show Hs K _ _ _ [.dl K q [.tuple [.str st, .int 0, .int 0]] true] _; tm_at "wk"⟩
    · rintro i σ H' hi ⟨ks, q, u1, rfl, _, hs2⟩
      exact ⟨_, by tm_at "lr"⟩
    · rintro i d x σ H' hd hx ⟨ks, q, u1, rfl, hks, hs2⟩
      have hi : i < (cs.map eCh).length := (List.getElem?_eq_some_iff.mp hd).1
      obtain ⟨c, hc, rfl⟩ := at_map hd
      have lk : (ks.map eK).length = ks.length := List.length_map _
      have hs3 := hs2.fact1 (hx Z (by tm_at "lr"))
      tm_at "run"
      exact ⟨ks ++ [(c.nm, c.h, c.a), (c.nm, c.h + 1, c.a), (c.nm, c.h, c.a + 1), (c.nm, -1, c.a), (st, c.h, c.a)], _, _, rfl, by rw [List.length_append]; simp only [List.length_cons, List.length_nil]; omega, by rw [List.map_append]; simp only [List.map_cons, List.map_nil]; tm_at "wk"⟩
    · rintro σ H' ⟨ks, q, u1, rfl, hks, hs2⟩
      tm_at "run"
      tm_at "finvl"
      exact k ks (by omega)
theorem ok_l_handed (T : Txt K mg CPlainBook COddsError CBadShare CBadText CBadBook CBadMove CBadProgram CBadPlan CUnfit CTooLarge CBadEdit) : Fc P w K mg base CX0 1 "_law_handed" ["choices", "how"] (spHand K) := by
  refine fc_of T.d_l_handed sc_l_handed (fun vs H Q E h => by obtain ⟨Z, cs, how, v, rfl, _⟩ := h; rfl) (fun _ _ _ _ _ _ us hl => match us, hl with | [_, _], _ => rfl) fun f cdv A outer s H vs Q E hr h => ⟨_, (pss_cons (ps_if (pt_cmpR op_eq (pv 1) pe_int (nomark _))
 (pss_one (ps_ret (pe_lc (own := [("choice", 2)]) (g := (gName 2)) (tt := tYes) rfl sc_l_handed.nd (piLK K (pv 0)) (blkOk_by (own := [("choice", 2)]) (N := ["choices", "how", "choice"]) (sc := defScope s_l_handed) (by decide +kernel)) (fun _ _ _ _ _ => (pg_name (i := 2) sc_l_handed.nd rfl (Or.inl rfl))) (fun _ _ _ _ _ => pts_nil) (fun _ _ _ _ _ => (pe_callTy (listK K) (by rfl) T.n_list b_list (pa_cons (pv 2) pa_nil))))))
 pss_nil)
 (pss_cons (ps_if (pt_cmpR op_eq (pv 1) pe_int (nomark _))
 (pss_one (ps_ret (pe_callTy (listK K) (by rfl) T.n_list b_list (pa_cons (pv 0) pa_nil))))
 pss_nil)
 (pss_cons (ps_if (pt_cmpR op_eq (pv 1) pe_int (nomark _))
 (pss_one (ps_ret (pe_callTy (tupK K) (by rfl) T.n_tuple b_tuple (pa_cons (pe_lc (own := [("choice", 2)]) (g := (gName 2)) (tt := tYes) rfl sc_l_handed.nd (piLK K (pv 0)) (blkOk_by (own := [("choice", 2)]) (N := ["choices", "how", "choice"]) (sc := defScope s_l_handed) (by decide +kernel)) (fun _ _ _ _ _ => (pg_name (i := 2) sc_l_handed.nd rfl (Or.inl rfl))) (fun _ _ _ _ _ => pts_nil) (fun _ _ _ _ _ => (pe_callTy (listK K) (by rfl) T.n_list b_list (pa_cons (pv 2) pa_nil)))) pa_nil))))
 pss_nil)
 (pss_one (ps_ret (pe_callTy (tupK K) (by rfl) T.n_tuple b_tuple (pa_cons (pv 0) pa_nil))))))), ?_⟩
  obtain ⟨Z, cs, how, v, rfl, hv, pre, k⟩ := h
  obtain ⟨p, xs, rfl, pz, ep, qs⟩ := hv.lst_inv
  have qs := dts_noZ (Z' := []) _ _ (noLs_map eCh (fun _ => rfl) cs) qs
  have hs : Hs K ⟨H, [], []⟩ [] H [.dl K p (cs.map eCh) false] [] := (Hs.start (fun _ z => by cases z) (fun _ z => by cases z)).ent (.dl K p (cs.map eCh) false) ⟨xs, ep, qs⟩ (fun _ z => by cases z) (fun _ _ z => by cases z) (fun z => by cases z)
  have lc : (cs.map eCh).length = cs.length := List.length_map _
  have hcl := pre.1
  have fin : ∀ (Z1 : List Addr) (H1 : Hp) (L : List Ent) (M : List (List V × List PyData)) (x : V), Hs K ⟨H, [], []⟩ Z1 H1 L M → Dt K Z1 H1 x (hand cs how) → Q x H1 := fun Z1 H1 L M x h q =>
    k x H1 Z1 h.kp (fun z hz => by
      rcases h.zn z hz with y | y | y
      · cases y
      · cases y
      · exact y) h.zl q
  have lcp : ∀ (R : VK), (∀ D Z3 H9, Hs K ⟨H, [], []⟩ Z3 H9 (.dl K D (cs.map eChL) true :: [.dl K p (cs.map eCh) false]) [] → R (.ref D) H9) →
      LcQ (Itl K (TA_ (V.ref p))) (gName 2) tYes (tCB (rListOf K) (tCons (tVar 2) tNil)) [2] [some (.ref p), some (.int how), none] R H := by
    intro R hR
    refine h_lcL (cs.map eCh) (fun i acc => acc = (cs.take i).map eChL) hs (fun D acc Z' H' h => by tm_at "lr") rfl (fun D i2 d x2 acc Z3 H9 hd2 hr hacc hz hs9 => ?_) (fun D acc Z3 H9 hr hacc hz hs9 => ?_)
    · obtain ⟨e, he, rfl⟩ := at_map hd2
      have hi2 : i2 < 100000 := by have := (List.getElem?_eq_some_iff.mp he).1; omega
      tm_at "run"
      rename_i pL HL hsL
      have hf := hsL.freeze .here
      tm_at "run"
      show _ = _
      rw [_root_.Fr.take_more he, map_snoc, hr]
    · rw [lc, List.take_length] at hr
      rw [hr] at hs9
      exact hR D Z3 H9 hs9
  tm_at "go"
  · rename_i h0
    refine lcp _ fun D Z3 H9 hs9 => ?_
    have hf := hs9.freeze .here
    exact fin _ _ _ _ _ hf (by unfold hand; rw [if_pos h0]; exact hf.dt (by tm_at "mem"))
  · rename_i h0 h1 p2 H2 hs2
    have hf := hs2.freeze .here
    exact fin _ _ _ _ _ hf (by unfold hand; rw [if_neg h0, if_pos h1]; exact hf.dt (by tm_at "mem"))
  · rename_i h0 h1 h2
    refine lcp _ fun D Z3 H9 hs9 => ?_
    tm_at "run"
    rename_i p2 H2 hs2
    exact fin _ _ _ _ _ hs2 (by unfold hand; rw [if_neg h0, if_neg h1, if_pos h2]; exact hs2.dt (by tm_at "mem"))
  · rename_i h0 h1 h2 p2 H2 hs2
    exact fin _ _ _ _ _ hs2 (by unfold hand; rw [if_neg h0, if_neg h1, if_neg h2]; exact hs2.dt (by tm_at "mem"))
theorem kp_in {Z : List Addr} {H H' H1 : Hp} {a : Addr} (k : Kp Z H H') (k1 : Kp [a] H' H1) (ha : a ∈ Z) : Kp Z H H1 := fun b o nb e => k1 b o (by
  intro z
  rw [one_mem z] at nb
  exact nb ha) (k b o nb e)
theorem ixN_lt {n k : Nat} (h : k < n) : ixN n (k : Int) = some k := by
  have e : atI (List.range n) (k : Int) = some k := atI_nat (by simp [h])
  unfold atI at e
  rw [List.length_range] at e
  cases hh : ixN n (k : Int) with
  | none => rw [hh] at e; cases e
  | some j =>
    rw [hh] at e
    have e : (List.range n)[j]? = some k := e
    rw [List.getElem?_eq_some_iff] at e
    obtain ⟨h1, h2⟩ := e
    simp at h2
    rw [h2]
theorem spoil_loop {p : Addr} {xs : List V} {Z : List Addr} {H : Hp} {how : Int} {D : Ends} (hn : xs.length ≤ 60)
    (rows : ∀ (i : Nat) (x : V), xs[i]? = some x → ∃ (a : Addr) (ys : List V) (z : Str), x = .ref a ∧ a ∈ Z ∧ H a = some (.lst ys) ∧ ys.length = 5 ∧ ys[0]? = some (.str z)) (cont : H p = some (.lst xs) ∨ U.TupAt K H p xs)
    (hd : ∀ o2 o3 H', Kp Z H H' → (H p = some (.lst xs) → H' p = some (.lst xs)) → D.nx [some (.ref p), some (.int how), o2, o3] H') :
    LoopQ (Itr 0 xs.length) (gName 2) (tSeq (tAsg (tOp (rIxA K) (tVar 0) (tVar 2)) (gName 3))
      (tSeq (tAsg (tC (V.str (Str.ofString "zz"))) (gSub (tVar 3) (tC (V.int 0)) rSetL))
        (tSeq (tAsg (tC (V.int 0)) (gSub (tVar 3) (tC (V.int 3)) rSetL))
          (tDrop (tBM K "list" rAppend (tVar 3) (tCons (tC (V.int 1)) tNil)))))) D [some (.ref p), some (.int how), none, none] H := by
  refine l_range (fun i σ H' => ∃ (o2 o3 : Option V), σ = [some (.ref p), some (.int how), o2, o3] ∧ Kp Z H H' ∧ ((H' p = some (.lst xs)) ∨ (U.TupAt K H' p xs ∧ H p ≠ some (.lst xs))) ∧
    ∀ (j : Nat) (x : V), xs[j]? = some x → ∃ (a : Addr) (ys : List V) (z : Str), x = .ref a ∧ a ∈ Z ∧ H' a = some (.lst ys) ∧ 5 ≤ ys.length ∧ ys.length ≤ 5 + i ∧ ys[0]? = some (.str z)) ?_ ?_ ?_
  · refine ⟨none, none, rfl, .refl, ?_, fun j x hx => ?_⟩
    · by_cases q : H p = some (.lst xs)
      · exact .inl q
      · exact .inr ⟨cont.resolve_left q, q⟩
    · obtain ⟨a, ys, z, e1, e2, e3, e4, e5⟩ := rows j x hx
      exact ⟨a, ys, z, e1, e2, e3, by omega, by omega, e5⟩
  · rintro i σ H' hi ⟨o2, o3, rfl, kz, ct, rw_⟩
    obtain ⟨a, ys, z, e1, e2, e3, e4, e5, e6⟩ := rw_ i xs[i] (List.getElem?_eq_getElem hi)
    have ei : atI xs (0 + (i : Int)) = some (.ref a) := by rw [Int.zero_add]; exact atI_nat (by rw [List.getElem?_eq_getElem hi, e1])
    have np : ∀ H1, Kp [a] H' H1 → ((H1 p = some (.lst xs)) ∨ (U.TupAt K H1 p xs ∧ H p ≠ some (.lst xs))) := fun H1 k1 => by
      rcases ct with ct | ⟨ct, q⟩
      · refine .inl (k1.get1 (fun z2 => ?_) ct)
        rw [z2, e3] at ct
        have e7 : ys = xs := by injection (Option.some.inj ct)
        rw [e7] at e6
        obtain ⟨b, _, _, h1, _⟩ := rw_ 0 _ e6
        cases h1
      · refine .inr ⟨?_, q⟩
        have ct : H' p = some (.tup xs) := ct
        exact k1.get1 (fun z2 => by rw [z2, e3] at ct; cases ct) ct
    have rd : ∀ Q : VK, Q (.ref a) H' → rIxA K (.ref p) (.int (0 + (i : Int))) H' Q := fun Q q => by
      rcases ct with ct | ⟨ct, _⟩
      · exact .inl (u_ixL (sql ct) ei q)
      · exact .inr (u_ixT ct.sq ei q)
    tm_at "run"
    refine rd _ ?_
    tm_at "run"
    refine s_list (j := 0) e3 (ixN_lt (k := 0) (by omega)) fun H1 k1 h1 => ?_
    tm_at "run"
    refine s_list (j := 3) h1 (ixN_lt (k := 3) (by rw [List.length_set]; omega)) fun H2 k2 h2 => ?_
    tm_at "run"
    refine u_append h2 (by rw [List.length_set, List.length_set]; omega) fun H3 k3 h3 => ?_
    tm_at "run"
    have k13 : Kp [a] H' H3 := (k1.trans k2).trans k3
    refine ⟨_, _, rfl, kp_in kz k13 e2, np H3 k13, fun j x hx => ?_⟩
    obtain ⟨b, ws, z2, f1, f2, f3, f4, f5, f6⟩ := rw_ j x hx
    by_cases hb : b = a
    · subst hb
      refine ⟨b, _, Str.ofString "zz", f1, f2, h3, ?_, ?_, ?_⟩
      · rw [List.length_append, List.length_set, List.length_set]; simp; omega
      · rw [List.length_append, List.length_set, List.length_set]; simp; omega
      · rw [List.getElem?_append_left (by rw [List.length_set, List.length_set]; omega), List.getElem?_set_ne (by decide), List.getElem?_set_self (by omega)]
    · exact ⟨b, ws, z2, f1, f2, k13.get1 hb f3, f4, by omega, f6⟩
  · rintro σ H' ⟨o2, o3, rfl, kz, ct, rw_⟩
    exact hd _ _ _ kz fun q => by
      rcases ct with ct | ⟨_, n⟩
      · exact ct
      · exact absurd q n
theorem ok_l_spoil (T : Txt K mg CPlainBook COddsError CBadShare CBadText CBadBook CBadMove CBadProgram CBadPlan CUnfit CTooLarge CBadEdit) : Fc P w K mg base CX0 1 "_law_spoil" ["given", "how"] (spSpoil K) := by
  refine fc_of T.d_l_spoil sc_l_spoil (fun vs H Q E h => by obtain ⟨Z, cs, how, v, rfl, _⟩ := h; rfl) (fun _ _ _ _ _ _ us hl => match us, hl with | [_, _], _ => rfl) fun f cdv A outer s H vs Q E hr h => ⟨_, (pss_cons (ps_if (PW.pt (pw_or (pt_cmpR op_eq (pv 1) pe_int (nomark _)) (pw_or1 (pt_cmpR op_eq (pv 1) pe_int (nomark _)))))
 (pss_one (ps_for PassesOwn.never rfl (pi_range1 (by rfl) T.n_range (pa_cons (pe_callB (lenK K) (by rfl) T.n_len b_len (pa_cons (pv 0) pa_nil)) pa_nil)) (pg_name (i := 2) sc_l_spoil.nd rfl (Or.inl rfl))
 (pss_cons (ps_set (i := 3) sc_l_spoil.nd rfl (Or.inl rfl) (pe_ix (ixAK K) (pv 0) (pv 2) (fun _ _ => rfl)))
 (pss_cons (ps_asg pe_str (pg_sub (pv 3) pe_int set_list))
 (pss_cons (ps_asg pe_int (pg_sub (pv 3) pe_int set_list))
 (pss_one (ps_expr (pe_bm PySem.F.plainAttrs_list PySem.F.slot_list_append PySem.F.type_list_append mt_append (pv 3) (pa_cons pe_int pa_nil)))))))))
 pss_nil)
 (pss_one (ps_if (pt_cmpR op_lt (pv 1) pe_int (nomark _))
 (pss_one (ps_expr (pe_bm PySem.F.plainAttrs_list PySem.F.slot_list_append PySem.F.type_list_append mt_append (pv 0) (pa_cons (pe_tup (pa_cons pe_str (pa_cons pe_int (pa_cons pe_int (pa_cons pe_int (pa_cons pe_int pa_nil)))))) pa_nil))))
 pss_nil))), ?_⟩
  obtain ⟨Z, cs, how, v, rfl, hv, ⟨hw0, pre⟩, k⟩ := h
  have lc : (cs.map eCh).length = cs.length := List.length_map _
  have lcl : (cs.map eChL).length = cs.length := List.length_map _
  have hcl := pre.1
  have rows : ∀ xs : List V, Dts K Z H xs (cs.map eChL) → xs.length = (cs.map eChL).length ∧ ∀ (i : Nat) (x : V), xs[i]? = some x → ∃ (a : Addr) (ys : List V) (z : Str), x = .ref a ∧ a ∈ Z ∧ H a = some (.lst ys) ∧ ys.length = 5 ∧ ys[0]? = some (.str z) := fun xs q => by
    refine ⟨q.length, fun i x hx => ?_⟩
    obtain ⟨d, hd, qd⟩ := q.at' hx
    obtain ⟨c, hc, rfl⟩ := at_map hd
    obtain ⟨a, ys, e1, e2, e3, e4⟩ := qd.lst_inv
    obtain ⟨x0, e5, q5⟩ := e4.at (i := 0) rfl
    rw [q5.str_inv] at e5
    exact ⟨a, ys, _, e1, e2, e3, e4.length, e5⟩
  by_cases h0 : how = 0
  · subst h0
    have hv : Dt K Z H v (.list (cs.map eChL)) := hv
    obtain ⟨p, xs, rfl, pz, ep, qs⟩ := hv.lst_inv
    obtain ⟨l1, r1⟩ := rows xs qs
    tm_at "go"
    · rw [← l1]
      refine spoil_loop (by omega) r1 (.inl ep) fun o2 o3 H1 k1 e1 => ?_
      have ep1 := e1 ep
      tm_at "run"
      all_goals first | (exfalso; omega) | skip
      rename_i t H2 hn2 hk2 ho2 H3 hk3 ho3
      exact k _ (kp_in (k1.trans hk2.of0) hk3 pz)
    all_goals omega
  by_cases h1 : how = 1
  · subst h1
    have hv : Dt K Z H v (.list (cs.map eCh)) := hv
    obtain ⟨p, xs, rfl, pz, ep, qs⟩ := hv.lst_inv
    have lx : xs.length = (cs.map eCh).length := qs.length
    tm_at "go"
    all_goals first | (exfalso; omega) | skip
    rename_i t H2 hn2 hk2 ho2 H3 hk3 ho3
    exact k _ (kp_in (Kp.of0 hk2) hk3 pz)
  by_cases h2 : how = 2
  · subst h2
    have hv : Dt K Z H v (.tuple (cs.map eChL)) := hv
    obtain ⟨p, xs, rfl, pz, qs⟩ := hv.tup_inv
    obtain ⟨l1, r1⟩ := rows xs qs
    tm_at "go"
    all_goals first | (exfalso; omega) | skip
    rw [← l1]
    refine spoil_loop (by omega) r1 (.inr pz) fun o2 o3 H1 k1 e1 => ?_
    tm_at "run"
    all_goals first | (exfalso; omega) | skip
    exact k _ k1
  · tm_at "go"
    all_goals first | (exfalso; omega) | skip
    exact k _ .refl

end
end My
set_option Elab.async false
set_option linter.all false
set_option autoImplicit false
set_option maxRecDepth 100000
set_option maxHeartbeats 4000000
namespace My
open PySem PySem.Spec PyProof.Rows L2 U
local macro_rules | `(tactic| tm_at "step") => `(tactic| first | (with_reducible refine br_b ?_ ?_ <;> intro hb_) | fail)

/-! my own steps: rows of tactics, tried from above -/
local macro_rules | `(tactic| tm_at "lk") => `(tactic| first | with_reducible assumption | (with_reducible refine' Kp.get0 ?k1 ?k2; (case k1 => with_reducible assumption); (case k2 => tm_at "lk")) | (with_reducible refine' Kp.get1 ?k1 ?k3 ?k2; (case k1 => with_reducible assumption); (case k3 => tm_at "ne"); (case k2 => tm_at "lk")) | fail)
local macro_rules | `(tactic| tm_at "lp") => `(tactic| first | with_reducible assumption | (with_reducible refine' Pool.kp0 ?k1 ?k2; (case k1 => with_reducible assumption); (case k2 => tm_at "lp")) | (with_reducible refine' Pool.kp1 ?k1 ?k3 ?k2; (case k1 => with_reducible assumption); (case k3 => tm_at "ne"); (case k2 => tm_at "lp")) | fail)
local macro_rules | `(tactic| tm_at "ls") => `(tactic| first | with_reducible assumption | (with_reducible refine' Scr.kp0 ?k1 ?k2; (case k1 => with_reducible assumption); (case k2 => tm_at "ls")) | (with_reducible refine' Scr.kp1 ?k1 ?k3 ?k4 ?k2; (case k1 => with_reducible assumption); (case k3 => with_reducible assumption); (case k4 => tm_at "ls"); (case k2 => tm_at "ls")) | fail)
local macro_rules | `(tactic| tm_at "ne") => `(tactic| first | with_reducible assumption | (with_reducible refine' Ne.symm ?k1; with_reducible assumption) | (with_reducible refine' ne_new ?k1 ?k2; (case k1 => with_reducible assumption); (case k2 => tm_at "lk")) | (with_reducible refine' ne_new' ?k1 ?k2; (case k1 => with_reducible assumption); (case k2 => tm_at "lk")) | (with_reducible refine' Pool.ne ?k1 ?k2; (case k1 => with_reducible assumption); (case k2 => tm_at "lp")) | (with_reducible refine' Ne.symm (Pool.ne ?k1 ?k2); (case k1 => with_reducible assumption); (case k2 => tm_at "lp")) | fail)
local macro_rules | `(tactic| tm_at "kc") => `(tactic| first | with_reducible assumption | with_reducible exact Kp.refl | (with_reducible refine' Kp.trans ?k1 (Kp.of0 ?k2); (case k2 => with_reducible assumption); (case k1 => tm_at "kc")) | (with_reducible refine' Kp.trans ?k1 ?k2; (case k2 => with_reducible assumption); (case k1 => tm_at "kc")) | (with_reducible refine' Kp.low' ?k1 ?k2 ?k3 ?k4; (case k2 => with_reducible assumption); (case k3 => with_reducible assumption); (case k1 => tm_at "kc"); (case k4 => tm_at "kc")) | fail)
local macro_rules | `(tactic| tm_at "sq") => `(tactic| first | (with_reducible refine' sql ?k9; (case k9 => tm_at "lk")) | (with_reducible refine' Scr.sq ?k9; (case k9 => tm_at "ls")) | fail)
local macro_rules | `(tactic| tm_at "sqt") => `(tactic| first | (with_reducible refine' sqt ?k9; (case k9 => tm_at "lk")) | fail)
local macro_rules | `(tactic| tm_at "bt") => `(tactic| first | with_reducible assumption | (with_reducible refine' Bt.mul ?k1 ?k2; (case k1 => tm_at "bt"); (case k2 => tm_at "bt")) | (with_reducible refine' Bt.addM ?k1 ?k2; (case k1 => tm_at "bt"); (case k2 => tm_at "bt")) | (with_reducible refine' Bt.subM ?k1 ?k2; (case k1 => tm_at "bt"); (case k2 => tm_at "bt")) | (with_reducible refine' Bt.neg ?k1; (case k1 => tm_at "bt")) | fail)
local macro_rules | `(tactic| tm_at "bm") => `(tactic| first | with_reducible assumption | (with_reducible refine' Bt.mono ?k1 ?k2; (case k1 => with_reducible assumption); (case k2 => k_dflt decide)) | fail)
local macro_rules | `(tactic| tm_at "side") => `(tactic| first | with_reducible assumption | (with_reducible refine' Bt.cmul ?k1 ?k2 ?k3; (case k1 => tm_at "bt"); (case k2 => tm_at "bt"); (case k3 => k_dflt decide)) | (with_reducible refine cmul_of ?k1; (case k1 => omega)) | (with_reducible refine cpow_of ?k1; (case k1 => omega)) | (with_reducible refine cdivw_of ?k1; (case k1 => omega)) | (with_reducible refine cdivw_big ?k1; (case k1 => omega)) | (with_reducible refine cmulx_of ?k1; (case k1 => omega)) | omega | fail)
local macro_rules | `(tactic| tm_at "step") => `(tactic| first
  | with_reducible refine u_op ?_
  | (with_reducible refine' u_var ?k1 ?_; (case k1 => k_dflt rfl))
  | with_reducible refine u_c ?_
  | with_reducible refine u_I0 ?_
  | with_reducible refine u_seq ?_
  | with_reducible refine u_asg ?_
  | with_reducible refine g_name ?_
  | with_reducible refine u_cb ?_
  | with_reducible refine u_cons ?_
  | with_reducible refine u_nil ?_
  | (with_reducible refine' u_pow ?k1 ?k2 ?_; (case k1 => k_dflt (tm_at "side")); (case k2 => (conv => lhs; simp only [Int.reduceToNat, Int.reducePow]) <;> rfl))
  | (with_reducible refine' u_I ?k1 ?_; (case k1 => k_dflt (tm_at "side")))
  | with_reducible refine u_int1 ?_
  | with_reducible refine u_intB ?_
  | with_reducible refine u_if ?_
  | with_reducible refine u_test ?_
  | with_reducible refine u_tb ?_
  | with_reducible refine u_tB ?_
  | with_reducible refine u_eqI ?_
  | with_reducible refine u_neI ?_
  | with_reducible refine u_eqB ?_
  | with_reducible refine u_and ?_
  | with_reducible refine u_or ?_
  | with_reducible refine u_not ?_
  | with_reducible refine u_andV ?_
  | with_reducible refine u_orV ?_
  | with_reducible refine u_notV ?_
  | with_reducible refine br_t ?_
  | with_reducible refine br_f ?_
  | with_reducible refine br_nt ?_
  | with_reducible refine br_nf ?_
  | with_reducible refine br_n ?_
  | with_reducible refine u_ret ?_
  | with_reducible refine u_next ?_
  | with_reducible refine u_drop ?_
  | with_reducible refine u_un ?_
  | with_reducible refine u_U ?_
  | with_reducible refine u_call ?_
  | with_reducible refine u_fldN ?_
  | with_reducible refine g_sub ?_
  | with_reducible refine g_cons ?_
  | with_reducible refine g_nil ?_
  | with_reducible refine u_tpar ?_
  | (with_reducible refine u_absL ?_; intro m_ h1_ h2_)
  | (with_reducible refine u_maxL ?_; intro m_ h1_ h2_ h3_)
  | (with_reducible refine u_minL ?_; intro m_ h1_ h2_ h3_)
  | with_reducible refine u_gcd ?_
  | with_reducible refine u_isi_ii ?_
  | with_reducible refine u_isi_ib ?_
  | with_reducible refine u_isi_bb ?_
  | with_reducible refine u_tupN ?_
  | with_reducible refine u_lstN ?_
  | (with_reducible refine' u_ixL ?k1 ?k2 ?_; (case k1 => tm_at "sq"); (case k2 => first | with_reducible assumption | k_dflt rfl))
  | (with_reducible refine' u_ixT ?k1 ?k2 ?_; (case k1 => tm_at "sqt"); (case k2 => k_dflt rfl))
  | (with_reducible refine' g_tup ?k1 ?k2 ?_; (case k1 => tm_at "sqt"); (case k2 => k_dflt rfl))
  | (with_reducible refine' u_lenL ?k1 ?_; (case k1 => tm_at "sq"))
  | (with_reducible refine' u_lenT ?k1 ?_; (case k1 => tm_at "sqt"))
  | with_reducible refine u_for ?_
  | with_reducible refine u_iL ?_
  | with_reducible refine u_iT ?_
  | with_reducible refine u_r1 ?_
  | with_reducible refine u_r2 ?_
  | (with_reducible refine' u_iLq ?k1 ?_; (case k1 => tm_at "sq"))
  | (with_reducible refine' u_iTq ?k1 ?_; (case k1 => tm_at "sqt"))
  | (with_reducible refine' u_r1q ?k1 ?_; (case k1 => (constructor <;> omega)))
  | (with_reducible refine' u_r2q ?k1 ?_; (case k1 => (refine ⟨?_, ?_, ?_, ?_⟩ <;> omega)))
  | with_reducible refine u_lc ?_
  | with_reducible refine u_yes ?_
  | (with_reducible refine endQ ?k1 ?_; (case k1 => k_dflt rfl))
  | with_reducible refine u_meth ?_
  | with_reducible refine u_callS ?_
  | with_reducible refine u_bm ?_
  | (with_reducible refine' bm_list ?k1 ?_; (case k1 => tm_at "lk"))
  | (with_reducible refine' u_append ?k1 ?k2 ?_; (case k1 => tm_at "lk"); (case k2 => omega); intro H_ hk_ ho_)
  | (with_reducible refine' appE ?k1 ?k2 ?_; (case k1 => tm_at "lk"); (case k2 => omega); intro H_ hk_ ho_)
  | with_reducible refine u_sl ?_
  | with_reducible refine u_noPart ?_
  | with_reducible refine u_part ?_
  | with_reducible refine u_intq ?_
  | (with_reducible refine' u_slL ?k1 ?_; (case k1 => tm_at "sq"); intro p_ H_ hn_ hk_ ho_)
  | (with_reducible refine' n_tup ?k1 ?_; (case k1 => k_dflt (exact Nat.le_of_ble_eq_true rfl)); intro p_ H_ hn_ hk_ ho_)
  | (with_reducible refine' n_lst ?k1 ?_; (case k1 => k_dflt (exact Nat.le_of_ble_eq_true rfl)); intro p_ H_ hn_ hk_ ho_)
  | (with_reducible refine' s_list ?k1 ?k2 ?_; (case k1 => tm_at "lk"); (case k2 => k_dflt rfl); intro H_ hk_ ho_)
  | (with_reducible refine br_d ?_ ?_ <;> intro hc_) | fail)
local macro_rules | `(tactic| tm_at "run") => `(tactic| repeat' tm_at "step")
local macro_rules | `(tactic| tm_at "go") => `(tactic| ((try dsimp only [cxOf, Cx.nox, Cx.wish]); tm_at "run"))

/-! steps over Hs -/
local macro_rules | `(tactic| tm_at "mem") => `(tactic| first | with_reducible exact List.mem_cons_self | (with_reducible refine' List.mem_cons_of_mem _ ?k1; (case k1 => tm_at "mem")) | fail)
local macro_rules | `(tactic| tm_at "loc") => `(tactic| first | with_reducible exact Loc.here | (with_reducible refine' Loc.there ?k1; (case k1 => tm_at "loc")) | fail)
local macro_rules | `(tactic| tm_at "rem") => `(tactic| first | with_reducible exact Rem.here | (with_reducible refine' Rem.there ?k1; (case k1 => tm_at "rem")) | fail)
local macro_rules | `(tactic| tm_at "suf") => `(tactic| first | with_reducible exact Suf.refl | (with_reducible refine' Suf.keep ?k1; (case k1 => tm_at "suf")) | (with_reducible refine' Suf.cons ?k1; (case k1 => tm_at "suf")) | fail)
local macro_rules | `(tactic| tm_at "wk") => `(tactic| first | with_reducible assumption | (with_reducible refine' Hs.wk ?k1 ?k2 ?k3; (case k1 => with_reducible assumption); (case k2 => tm_at "suf"); (case k3 => tm_at "suf")) | fail)
local macro_rules | `(tactic| tm_at "dt") => `(tactic| first | with_reducible exact Dt.int _ | with_reducible exact Dt.str _ | with_reducible exact Dt.bl _ | with_reducible exact Dt.non | with_reducible assumption | (with_reducible refine' Hs.dt ?k1 ?k2; (case k1 => with_reducible assumption); (case k2 => tm_at "mem")) | (with_reducible refine' Hs.dtup ?k1 ?k2 ?k3; (case k1 => with_reducible assumption); (case k2 => tm_at "loc"); (case k3 => tm_at "dts")) | fail)
local macro_rules | `(tactic| tm_at "dts") => `(tactic| first | with_reducible exact Dts.nil | (with_reducible refine' Dts.cons ?k1 ?k2; (case k1 => tm_at "dt"); (case k2 => tm_at "dts")) | with_reducible assumption | (with_reducible refine' Hs.dts ?k1 ?k2; (case k1 => with_reducible assumption); (case k2 => tm_at "mem")) | fail)
local macro_rules | `(tactic| tm_at "da") => `(tactic| first | (with_reducible refine' Da.imm ?k1; (case k1 => tm_at "dt")) | (with_reducible refine' Hs.dlst ?k1 ?k2; (case k1 => with_reducible assumption); (case k2 => tm_at "loc")) | fail)
local macro_rules | `(tactic| tm_at "lr") => `(tactic| first | with_reducible assumption | (with_reducible refine' Hs.dlv ?k1 ?k2; (case k1 => with_reducible assumption); (case k2 => tm_at "loc")) | (with_reducible refine' Dt.dlv ?k1; (case k1 => tm_at "dt")) | fail)
local macro_rules | `(tactic| tm_at "zs") => `(tactic| first | with_reducible assumption | with_reducible exact List.Subset.refl _ | (with_reducible refine' List.Subset.trans ?k1 ?k2; (case k2 => with_reducible assumption); (case k1 => tm_at "zs")) | (with_reducible refine' List.Subset.trans ?k1 (List.subset_cons_self _ _); (case k1 => tm_at "zs")) | fail)
local macro_rules | `(tactic| tm_at "at") => `(tactic| first | with_reducible assumption | k_dflt rfl | fail)
local macro_rules | `(tactic| tm_at "dep") => `(tactic| first | with_reducible assumption | (with_reducible refine' Nat.le_trans (Nat.min_le_left _ _) ?k1; (case k1 => first | with_reducible assumption | exact Nat.le_of_ble_eq_true rfl)) | (with_reducible refine' Nat.le_trans (Nat.min_le_right _ _) ?k1; (case k1 => first | with_reducible assumption | exact Nat.le_of_ble_eq_true rfl)) | fail)
local macro_rules | `(tactic| tm_at "mono") => `(tactic| (intro φ ψ h s; repeat' (first | exact fun r1 r2 r3 r4 => h _ (s r1 r2 r3 r4) | exact fun r1 r2 r3 => h _ (s r1 r2 r3) | exact fun r1 r2 => h _ (s r1 r2) | exact fun r1 => h _ (s r1) | exact h _ s | (obtain ⟨x, s⟩ := s; refine ⟨x, ?_⟩))))
local macro_rules | `(tactic| tm_at "sz") => `(tactic| first | with_reducible assumption | omega | k_dflt (exact Nat.le_of_ble_eq_true rfl) | (simp only [List.length_map, List.length_append, List.length_cons, List.length_nil]; omega) | fail)
local macro_rules | `(tactic| tm_at "pre") => `(tactic| first | with_reducible assumption | trivial | omega | (refine ⟨?_, ?_⟩ <;> tm_at "pre") | fail)
local macro_rules | `(tactic| tm_at "step") => `(tactic| first
  | (with_reducible refine' h_ixTi ?k1 ?k2 ?_; (case k1 => tm_at "dt"); (case k2 => tm_at "at"))
  | (with_reducible refine' h_ixTs ?k1 ?k2 ?_; (case k1 => tm_at "dt"); (case k2 => tm_at "at"))
  | (with_reducible refine' h_ixTb ?k1 ?k2 ?_; (case k1 => tm_at "dt"); (case k2 => tm_at "at"))
  | (with_reducible refine' h_ixTn ?k1 ?k2 ?_; (case k1 => tm_at "dt"); (case k2 => tm_at "at"))
  | (with_reducible refine' h_ixT ?k0 ?k1 ?k2 ?_; (case k0 => with_reducible assumption); (case k1 => tm_at "dt"); (case k2 => tm_at "at"); intro x_ hd_ hs_)
  | (with_reducible refine' h_ixLi ?k0 ?k1 ?k2 ?_; (case k0 => with_reducible assumption); (case k1 => tm_at "lr"); (case k2 => tm_at "at"))
  | (with_reducible refine' h_ixLs ?k0 ?k1 ?k2 ?_; (case k0 => with_reducible assumption); (case k1 => tm_at "lr"); (case k2 => tm_at "at"))
  | (with_reducible refine' h_ixLb ?k0 ?k1 ?k2 ?_; (case k0 => with_reducible assumption); (case k1 => tm_at "lr"); (case k2 => tm_at "at"))
  | (with_reducible refine' h_ixL ?k0 ?k1 ?k2 ?_; (case k0 => with_reducible assumption); (case k1 => tm_at "lr"); (case k2 => tm_at "at"); intro x_ hd_ hs_)
  | (with_reducible refine' h_gtup ?k1 ?k2 ?_; (case k1 => tm_at "dt"); (case k2 => k_dflt rfl); intro xs_ hq_)
  | (with_reducible refine' h_gci ?k1 ?_; (case k1 => with_reducible assumption); intro xs_ hq_)
  | (with_reducible refine' h_gcs ?k1 ?_; (case k1 => with_reducible assumption); intro xs_ hq_)
  | (with_reducible refine' h_gcb ?k1 ?_; (case k1 => with_reducible assumption); intro xs_ hq_)
  | (with_reducible refine' h_gcn ?k1 ?_; (case k1 => with_reducible assumption); intro xs_ hq_)
  | (with_reducible refine' h_gc ?k0 ?k1 ?_; (case k0 => with_reducible assumption); (case k1 => with_reducible assumption); intro x_ xs_ hq_ hs_)
  | (with_reducible refine' h_gn ?k1 ?_; (case k1 => with_reducible assumption))
  | (with_reducible refine' h_lenL ?k1 ?_; (case k1 => tm_at "lr"))
  | (with_reducible refine' h_lenT ?k1 ?_; (case k1 => tm_at "dt"))
  | (with_reducible refine' h_tup ?k0 ?k1 ?k2 ?_; (case k0 => with_reducible assumption); (case k1 => k_dflt (exact Nat.le_of_ble_eq_true rfl)); (case k2 => tm_at "dts"); intro p_ H_ hs_)
  | (with_reducible refine' h_lst ?k0 ?k1 ?k2 ?_; (case k0 => with_reducible assumption); (case k1 => k_dflt (exact Nat.le_of_ble_eq_true rfl)); (case k2 => tm_at "dts"); intro p_ H_ hs_)
  | (with_reducible refine' h_tupO ?k0 ?k1 ?_; (case k0 => with_reducible assumption); (case k1 => k_dflt (exact Nat.le_of_ble_eq_true rfl)); intro p_ H_ hs_)
  | (with_reducible refine' h_lstO ?k0 ?k1 ?_; (case k0 => with_reducible assumption); (case k1 => k_dflt (exact Nat.le_of_ble_eq_true rfl)); intro p_ H_ hs_)
  | fail)
local macro_rules | `(tactic| tm_at "step") => `(tactic| first
  | (with_reducible refine' h_bmL ?k0 ?k1 ?_; (case k0 => with_reducible assumption); (case k1 => tm_at "loc"))
  | (with_reducible refine' h_app ?k0 ?k1 ?k2 ?k3 ?_; (case k0 => with_reducible assumption); (case k1 => tm_at "loc"); (case k2 => tm_at "dt"); (case k3 => tm_at "sz"); intro H_ hs_)
  | (with_reducible refine' h_setL ?k0 ?k1 ?k2 ?k3 ?_; (case k0 => with_reducible assumption); (case k1 => tm_at "loc"); (case k2 => tm_at "dt"); (case k3 => tm_at "at"); intro H_ hs_)
  | (with_reducible refine' h_slL ?k0 ?k1 ?_; (case k0 => with_reducible assumption); (case k1 => tm_at "lr"); intro p_ H_ hs_)
  | (with_reducible refine' h_sl3 ?k0 ?k1 ?_; (case k0 => with_reducible assumption); (case k1 => tm_at "dt"); intro p_ H_ hs_)
  | (with_reducible refine' h_slf1 ?k0 ?k1 ?_; (case k0 => with_reducible assumption); (case k1 => tm_at "dt"); intro p_ H_ hs_)
  | (with_reducible refine' h_slT ?k0 ?k1 ?_; (case k0 => with_reducible assumption); (case k1 => tm_at "dt"); intro p_ H_ hs_)
  | (with_reducible refine' h_catLe ?k0 ?k1 ?k2 ?k3 ?k4 ?_; (case k0 => with_reducible assumption); (case k1 => tm_at "lr"); (case k2 => tm_at "lr"); (case k3 => tm_at "sz"); (case k4 => ((try simp only [List.cons_append, List.nil_append]); k_dflt rfl)); intro p_ H_ hs_)
  | (with_reducible refine' h_catTe ?k0 ?k1 ?k2 ?k3 ?k4 ?_; (case k0 => with_reducible assumption); (case k1 => tm_at "dt"); (case k2 => tm_at "dt"); (case k3 => tm_at "sz"); (case k4 => ((try simp only [List.cons_append, List.nil_append]); k_dflt rfl)); intro p_ H_ hs_)
  | (with_reducible refine' h_extL ?k0 ?k1 ?k2 ?k3 ?_; (case k0 => with_reducible assumption); (case k1 => tm_at "loc"); (case k2 => tm_at "lr"); (case k3 => tm_at "sz"); intro H_ hs_)
  | (with_reducible refine' h_tupOfL ?k0 ?k1 ?_; (case k0 => with_reducible assumption); (case k1 => tm_at "lr"); intro p_ H_ hs_)
  | (with_reducible refine' h_tupOfT ?k1 ?_; (case k1 => tm_at "dt"))
  | (with_reducible refine' h_listOfL ?k0 ?k1 ?_; (case k0 => with_reducible assumption); (case k1 => tm_at "lr"); intro p_ H_ hs_)
  | (with_reducible refine' h_listOfT ?k0 ?k1 ?_; (case k0 => with_reducible assumption); (case k1 => tm_at "dt"); intro p_ H_ hs_)
  | (with_reducible refine' h_eq ?k1 ?k2 ?k3 ?_; (case k1 => tm_at "da"); (case k2 => tm_at "da"); (case k3 => tm_at "dep"))
  | (with_reducible refine' h_ne ?k1 ?k2 ?k3 ?_; (case k1 => tm_at "da"); (case k2 => tm_at "da"); (case k3 => tm_at "dep"))
  | (with_reducible refine' h_inL ?k1 ?k2 ?k3 ?_; (case k1 => tm_at "dt"); (case k2 => tm_at "da"); (case k3 => tm_at "dep"))
  | (with_reducible refine' h_niL ?k1 ?k2 ?k3 ?_; (case k1 => tm_at "dt"); (case k2 => tm_at "da"); (case k3 => tm_at "dep"))
  | (with_reducible refine' h_inT ?k1 ?k2 ?k3 ?_; (case k1 => tm_at "dt"); (case k2 => tm_at "dt"); (case k3 => tm_at "dep"))
  | (with_reducible refine' h_niT ?k1 ?k2 ?k3 ?_; (case k1 => tm_at "dt"); (case k2 => tm_at "dt"); (case k3 => tm_at "dep"))
  | with_reducible refine u_chain ?_
  | (with_reducible refine' h_min4 ?k1 ?_; (case k1 => tm_at "dt"); intro m_ h1_ h2_ h3_ h4_ h5_)
  | (with_reducible refine' h_iL ?k1 ?_; (case k1 => tm_at "lr"))
  | (with_reducible refine' h_iT ?k1 ?_; (case k1 => tm_at "dt"))
  | (with_reducible refine' lcE ?k1 ?k2 ?k3 ?k4 ?k5 ?_; (case k1 => tm_at "wk"); (case k2 => tm_at "zs"); (case k3 => omega); (case k4 => omega); (case k5 => tm_at "dt"))
  | (with_reducible refine' lcS ?k1 ?k2 ?k3 ?_; (case k1 => tm_at "wk"); (case k2 => tm_at "zs"); (case k3 => omega))
  | with_reducible refine u_iA ?_
  | (with_reducible refine' f_repG ?k1 ?k2 ?k3 ?_; (case k1 => omega); (case k2 => omega); (case k3 => omega); intro z_ hz_)
  | (with_reducible refine' k_vA ?k0 ?k1 ?k2 ?_; (case k0 => with_reducible assumption); (case k1 => tm_at "dts"); (case k2 => tm_at "mono"))
  | (with_reducible refine' k_wA ?k0 ?k1 ?k2 ?k3 ?_; (case k0 => with_reducible assumption); (case k1 => tm_at "loc"); (case k2 => tm_at "dts"); (case k3 => tm_at "mono"))
  | (with_reducible refine' k_vlA ?k0 ?k1 ?k2 ?_; (case k0 => with_reducible assumption); (case k1 => tm_at "dts"); (case k2 => tm_at "mono"))
  | (with_reducible refine' k_wlA ?k0 ?k1 ?k2 ?k3 ?_; (case k0 => with_reducible assumption); (case k1 => tm_at "loc"); (case k2 => tm_at "dts"); (case k3 => tm_at "mono"))
  | (with_reducible refine ret_int ?_; intro H_ hs_)
  | (with_reducible refine ret_str ?_; intro H_ hs_)
  | (with_reducible refine ret_bl ?_; intro H_ hs_)
  | (with_reducible refine ret_non ?_; intro H_ hs_)
  | (with_reducible refine ret_any ?_; intro v_ Z_ H_ hz_ hs_)
  | (with_reducible refine retL ?_; intro p_ Z_ H_ hz_ hs_)
  | fail)
local macro_rules | `(tactic| tm_at "step") => `(tactic| first
  | with_reducible refine u_isNi ?_
  | with_reducible refine u_isNb ?_
  | with_reducible refine u_isNs ?_
  | with_reducible refine u_isi (.base (.str _)) kB_sb ?_
  | with_reducible refine u_isi (.base (.str _)) kB_ss ?_
  | with_reducible refine u_isi (.base (.str _)) kB_si ?_
  | with_reducible refine u_isi (.base (.bl _)) kB_bs ?_
  | with_reducible refine u_isi (.base (.bl _)) kB_bi ?_
  | with_reducible refine u_isi (.base (.int _)) kB_is ?_
  | (with_reducible refine' u_isi (ty_tup ?k1) kB_tt ?_; (case k1 => tm_at "dt"))
  | (with_reducible refine' u_isi (ty_tup ?k1) kB_tl ?_; (case k1 => tm_at "dt"))
  | (with_reducible refine' u_isi (ty_tup ?k1) kB_tb ?_; (case k1 => tm_at "dt"))
  | (with_reducible refine' u_isi (ty_tup ?k1) kB_ts ?_; (case k1 => tm_at "dt"))
  | (with_reducible refine' u_isi (ty_tup ?k1) kB_ti ?_; (case k1 => tm_at "dt"))
  | (with_reducible refine' u_isi (ty_lst ?k1) kB_lt ?_; (case k1 => tm_at "lr"))
  | (with_reducible refine' u_isi (ty_lst ?k1) kB_ll ?_; (case k1 => tm_at "lr"))
  | (with_reducible refine' u_isi (ty_lst ?k1) kB_lb ?_; (case k1 => tm_at "lr"))
  | (with_reducible refine' u_isi (ty_lst ?k1) kB_ls ?_; (case k1 => tm_at "lr"))
  | (with_reducible refine' u_isi (ty_lst ?k1) kB_li ?_; (case k1 => tm_at "lr"))
  | fail)
local macro_rules | `(tactic| tm_at "anyi") => `(tactic| (intro d hd; simp only [List.mem_cons, List.not_mem_nil, or_false] at hd; repeat' (rcases hd with rfl | hd); all_goals (first | exact ⟨_, rfl⟩ | (subst hd; exact ⟨_, rfl⟩))))
local macro_rules | `(tactic| tm_at "len") => `(tactic| (simp only [List.length_cons, List.length_nil, List.length_map, List.length_append]; omega))
local macro_rules | `(tactic| tm_at "step") => `(tactic| first
  | with_reducible refine u_dget2 ?_
  | with_reducible refine u_dput ?_
  | (with_reducible refine' h_dnewT ?k0 ?_; (case k0 => with_reducible assumption); intro p_ H_ hs_)
  | (with_reducible refine' h_dgA ?k0 ?k1 ?_; (case k0 => with_reducible assumption); (case k1 => tm_at "loc"))
  | fail)
local macro_rules | `(tactic| tm_at "finv") => `(tactic| (with_reducible refine' fin_v ?k1 ?k2 ?_; (case k1 => with_reducible assumption); (case k2 => tm_at "dt")))
local macro_rules | `(tactic| tm_at "finw") => `(tactic| (with_reducible refine' fin_w ?k1 ?k2 ?k3 ?_; (case k1 => with_reducible assumption); (case k2 => tm_at "loc"); (case k3 => tm_at "dt")))
local macro_rules | `(tactic| tm_at "finvl") => `(tactic| (with_reducible refine' fin_vl ?k1 ?k2 ?_; (case k1 => with_reducible assumption); (case k2 => tm_at "loc")))

local macro_rules | `(tactic| tm_at "step") => `(tactic| first | (with_reducible refine' k_draw ?k1 ?k2 ?_; (case k1 => tm_at "lp"); (case k2 => k_dflt omega); intro r_ H_ h0_ h1_ hk_ hp_) | fail)
local macro_rules | `(tactic| tm_at "step") => `(tactic| first | with_reducible refine k_int ?_ | fail)
local macro_rules | `(tactic| tm_at "step") => `(tactic| first | (with_reducible refine' k_pool ?k1 ?k2 ?_; (case k1 => tm_at "ls"); (case k2 => k_dflt (tm_at "side")); intro p_ H_ hn_ hk_ hp_) | fail)
local macro_rules | `(tactic| tm_at "step") => `(tactic| first | (with_reducible refine' h_draw ?k0 ?k1 ?k2 ?_; (case k0 => with_reducible assumption); (case k1 => tm_at "loc"); (case k2 => k_dflt omega); intro r_ H_ h0_ h1_ hs_) | fail)
local macro_rules | `(tactic| tm_at "ln") => `(tactic| first | with_reducible assumption | omega | (simp only [SX.S_len, Str.length_append]; omega) | fail)
local macro_rules | `(tactic| tm_at "lg") => `(tactic| first | with_reducible assumption | (with_reducible refine' bt_log ?k1; (case k1 => tm_at "bm")) | fail)
local macro_rules | `(tactic| tm_at "step") => `(tactic| first
  | with_reducible refine u_eqS ?_
  | with_reducible refine u_neS ?_
  | with_reducible refine bm_str ?_
  | with_reducible refine u_bm0 ?_
  | with_reducible refine u_find ?_
  | with_reducible refine u_asc ?_
  | with_reducible refine u_dgt ?_
  | with_reducible refine u_inS ?_
  | with_reducible refine u_niS ?_
  | with_reducible refine u_isNn ?_
  | with_reducible refine u_isNr ?_
  | (with_reducible refine' u_partS ?k1 ?k2 ?_; (case k1 => k_dflt rfl); (case k2 => tm_at "ln"); intro p_ H_ hn_ hk_ ho_)
  | (with_reducible refine' u_rmp ?k1 ?_; (case k1 => tm_at "ln"))
  | (with_reducible refine' u_addS ?k1 ?_; (case k1 => tm_at "ln"))
  | (with_reducible refine' u_lenS ?k1 ?_; (case k1 => tm_at "ln"))
  | (with_reducible refine' u_strI ?k1 ?_; (case k1 => tm_at "lg"))
  | (with_reducible refine' u_slX ?k1 ?_; (case k1 => tm_at "ln"))
  | with_reducible refine u_iS ?_
  | with_reducible refine u_iSq ?_
  | with_reducible refine u_join ?_
  | with_reducible refine js_cons ?_
  | with_reducible refine js_nil ?_
  | (with_reducible refine' jsQ ?k1 ?_; (case k1 => tm_at "ln"))
  | with_reducible refine u_fmt ?_
  | (with_reducible refine' fmtI ?k1 ?_; (case k1 => tm_at "lg"))
  | fail)

local macro_rules | `(tactic| tm_at "step") => `(tactic| first | (with_reducible refine' sp_is_name ?k1 ?_; (case k1 => tm_at "pre")) | fail)
local macro_rules | `(tactic| tm_at "step") => `(tactic| first | (with_reducible refine' sp_l_is_name ?k1 ?_; (case k1 => tm_at "pre")) | fail)
local macro_rules | `(tactic| tm_at "step") => `(tactic| first | (with_reducible refine sp_l_name ?_; intro z_ hr_) | fail)
local macro_rules | `(tactic| tm_at "step") => `(tactic| first | (with_reducible refine sp_l_names ?_; intro zs_ hr_) | fail)
local macro_rules | `(tactic| tm_at "step") => `(tactic| first | (with_reducible refine' sp_l_odd_name ?k1 ?_; (case k1 => tm_at "pre"); intro z_ hr_) | fail)
local macro_rules | `(tactic| tm_at "step") => `(tactic| first | (with_reducible refine sp_l_book ?_; intro s_ f_ cs_ hr_) | fail)
local macro_rules | `(tactic| tm_at "step") => `(tactic| first | (with_reducible refine' sp_l_more_options ?k1 ?_; (case k1 => tm_at "pre"); intro cs2_ hr_) | fail)
local macro_rules | `(tactic| tm_at "step") => `(tactic| first | (with_reducible refine' sp_l_bent ?k1 ?_; (case k1 => tm_at "pre"); intro s2_ f2_ cs2_ hr_) | fail)
local macro_rules | `(tactic| tm_at "step") => `(tactic| first | (with_reducible refine' sp_l_is_book ?k1 ?_; (case k1 => tm_at "pre")) | fail)
local macro_rules | `(tactic| tm_at "step") => `(tactic| first | (with_reducible refine' sp_l_keys ?k1 ?_; (case k1 => tm_at "pre"); intro ks_ hr_) | fail)
/-! the dict of the options -/
abbrev keyOf (c : Ch) : List Key := [.inr c.nm, .inl c.h, .inl c.a]
abbrev ePr (p : Int × Int) : PyData := .tuple [.int p.1, .int p.2]
def optsK (cs : List Ch) (k : List Key) : List (Int × Int) := (cs.filter (fun c => decide (keyOf c = k))).map fun c => (c.t, c.r)
theorem key_same {c d : Ch} : keyOf c = keyOf d ↔ sameK c d = true := by
  rw [sameK_iff]
  simp [keyOf]
theorem optsK_snoc (cs : List Ch) (c : Ch) (k : List Key) : optsK (cs ++ [c]) k = optsK cs k ++ if keyOf c = k then [(c.t, c.r)] else [] := by
  unfold optsK
  rw [List.filter_append, List.map_append]
  by_cases h : keyOf c = k <;> simp [h]
theorem optsK_len (cs : List Ch) (c : Ch) : (optsK cs (keyOf c)).length = (cs.filter (fun d => sameK d c)).length := by
  unfold optsK
  rw [List.length_map]
  congr 1
  refine List.filter_congr fun x _ => ?_
  rw [Bool.eq_iff_iff, decide_eq_true_iff]
  exact key_same
theorem optsK_mem {cs : List Ch} {c : Ch} : (c.t, c.r) ∈ optsK cs (keyOf c) ↔ c ∈ cs := by
  unfold optsK
  rw [List.mem_map]
  constructor
  · rintro ⟨d, hd, e⟩
    obtain ⟨h1, h2⟩ := List.mem_filter.mp hd
    have h3 := sameK_iff.mp (key_same.mp (by simpa using h2))
    have e1 : d.t = c.t := congrArg Prod.fst e
    have e2 : d.r = c.r := congrArg Prod.snd e
    cases c; cases d
    simp only at h3 e1 e2
    obtain ⟨rfl, rfl, rfl⟩ := h3
    subst e1 e2
    exact h1
  · intro h
    exact ⟨c, List.mem_filter.mpr ⟨h, by simp⟩, rfl⟩
theorem valD_cons {κ : Type} [DecidableEq κ] (p : κ × PyData) (s : List (κ × PyData)) (k : κ) : valD (p :: s) k = if p.1 = k then some p.2 else valD s k := by
  unfold valD
  rw [List.find?_cons]
  by_cases h : p.1 = k <;> simp [h]
theorem valD_map {κ : Type} [DecidableEq κ] (k k' : κ) (d : PyData) : ∀ s : List (κ × PyData), valD (s.map fun kv => if kv.1 = k then (kv.1, d) else kv) k' = if k = k' then (if (s.any fun kv => decide (kv.1 = k)) = true then some d else none) else valD s k'
  | [] => by simp [valD]
  | p :: s => by
    rw [List.map_cons, valD_cons, valD_cons, valD_map k k' d s, List.any_cons]
    by_cases h1 : p.1 = k
    · rw [if_pos h1]
      by_cases h2 : k = k'
      · simp [h1, h2]
      · have : ¬ p.1 = k' := fun z => h2 (h1.symm.trans z)
        simp [h2, this]
    · rw [if_neg h1]
      by_cases h2 : k = k'
      · have : ¬ p.1 = k' := fun z => h1 (z.trans h2.symm)
        have e1 : decide (p.1 = k) = false := decide_eq_false h1
        rw [if_neg this, if_pos h2, if_pos h2, e1, Bool.false_or]
      · simp [h2]
theorem valD_none {κ : Type} [DecidableEq κ] {k : κ} : ∀ {s : List (κ × PyData)}, (s.any fun kv => decide (kv.1 = k)) = false → valD s k = none
  | [], _ => rfl
  | p :: s, h => by
    rw [List.any_cons, Bool.or_eq_false_iff] at h
    rw [valD_cons, if_neg (by simpa using h.1)]
    exact valD_none h.2
theorem valD_app {κ : Type} [DecidableEq κ] (k k' : κ) (d : PyData) : ∀ s : List (κ × PyData), valD (s ++ [(k, d)]) k' = (valD s k').or (if k = k' then some d else none)
  | [] => by simp [valD]
  | p :: s => by
    rw [List.cons_append, valD_cons, valD_cons, valD_app k k' d s]
    by_cases h : p.1 = k' <;> simp [h]
theorem valD_put {κ : Type} [DecidableEq κ] (s : List (κ × PyData)) (k k' : κ) (d : PyData) : valD (putD s k d) k' = if k = k' then some d else valD s k' := by
  unfold putD
  by_cases h : (s.any fun kv => decide (kv.1 = k)) = true
  · rw [if_pos h, valD_map, if_pos h]
  · rw [if_neg h, valD_app]
    have h : (s.any fun kv => decide (kv.1 = k)) = false := (Bool.not_eq_true _).mp h
    by_cases e : k = k'
    · subst e
      rw [valD_none h]; simp
    · simp [e]
theorem mem_put {κ : Type} [DecidableEq κ] {s : List (κ × PyData)} {k : κ} {d : PyData} {x : κ × PyData} (h : x ∈ putD s k d) : x = (k, d) ∨ (x ∈ s ∧ x.1 ≠ k) := by
  unfold putD at h
  split at h
  · obtain ⟨y, hy, e⟩ := List.mem_map.mp h
    by_cases z : y.1 = k
    · rw [if_pos z] at e; rw [← e, z]; exact .inl rfl
    · rw [if_neg z] at e; rw [← e]; exact .inr ⟨hy, z⟩
  · rename_i hn
    rcases List.mem_append.mp h with y | y
    · refine .inr ⟨y, fun z => hn ?_⟩
      exact List.any_eq_true.mpr ⟨x, y, by simp [z]⟩
    · exact .inl (List.mem_singleton.mp y)
theorem len_put {κ : Type} [DecidableEq κ] (s : List (κ × PyData)) (k : κ) (d : PyData) : (putD s k d).length ≤ s.length + 1 := by
  unfold putD
  split
  · rw [List.length_map]; omega
  · rw [List.length_append]; simp
theorem valD_mem {κ : Type} [DecidableEq κ] {k : κ} {d : PyData} : ∀ {s : List (κ × PyData)}, valD s k = some d → (k, d) ∈ s
  | [], h => by cases h
  | p :: s, h => by
    rw [valD_cons] at h
    split at h
    · rename_i e
      have e2 := Option.some.inj h
      rw [← e, ← e2]; exact List.mem_cons_self
    · exact List.mem_cons_of_mem _ (valD_mem h)
structure GrpS (cs : List Ch) (s : List (List Key × PyData)) : Prop where
  v : ∀ k, valD s k = if optsK cs k = [] then none else some (.tuple ((optsK cs k).map ePr))
  m : ∀ x ∈ s, x.2 = .tuple ((optsK cs x.1).map ePr) ∧ optsK cs x.1 ≠ []
  l : s.length ≤ cs.length
theorem GrpS.nil : GrpS [] [] := ⟨fun k => rfl, fun x hx => (by cases hx), Nat.le_refl _⟩
theorem GrpS.get {cs : List Ch} {s : List (List Key × PyData)} (g : GrpS cs s) (k : List Key) : (valD s k).getD (.tuple []) = .tuple ((optsK cs k).map ePr) := by
  rw [g.v k]
  split
  · rename_i h; rw [h]; rfl
  · rfl
theorem GrpS.snoc {cs : List Ch} {s : List (List Key × PyData)} (g : GrpS cs s) (c : Ch) : GrpS (cs ++ [c]) (putD s (keyOf c) (.tuple ((optsK cs (keyOf c)).map ePr ++ [ePr (c.t, c.r)]))) := by
  refine ⟨fun k => ?_, fun x hx => ?_, ?_⟩
  · rw [valD_put, optsK_snoc]
    by_cases h : keyOf c = k
    · subst h
      rw [if_pos rfl, if_pos rfl, if_neg (by simp), List.map_append]
      rfl
    · rw [if_neg h, if_neg h, List.append_nil]; exact g.v k
  · rcases mem_put hx with rfl | ⟨h1, h2⟩
    · rw [optsK_snoc, if_pos rfl, List.map_append]
      exact ⟨rfl, by simp⟩
    · rw [optsK_snoc, if_neg (fun z => h2 z.symm), List.append_nil]
      exact g.m x h1
  · have := len_put s (keyOf c) (.tuple ((optsK cs (keyOf c)).map ePr ++ [ePr (c.t, c.r)]))
    have := g.l
    rw [List.length_append, List.length_singleton]
    omega
def spChk (K : PySem.W.Frag) (CB : Addr) : Sp := fun vs H Q E => ∃ (Z : List Addr) (c : Ch) (s : Int) (v : V), vs = [v, .int s] ∧ (∀ z ∈ Z, ∃ o, H z = some o) ∧ Dt K Z H v (eCh c) ∧ c.nm.length ≤ 300 ∧ (okCh s c = false → ∀ H', Kp [] H H' → E (.ref CB) none H') ∧ (okCh s c = true → ∀ H', Kp [] H H' → Q .non H')
def spGrp (K : PySem.W.Frag) (CB : Addr) : Sp := fun vs H Q E => ∃ (Z : List Addr) (cs : List Ch) (v : V), vs = [v] ∧ (∀ z ∈ Z, ∃ o, H z = some o) ∧ Dt K Z H v (.tuple (cs.map eCh)) ∧ Sml 60 cs ∧ (goodG cs = false → ∀ H', Kp [] H H' → E (.ref CB) none H') ∧
  (goodG cs = true → ∀ o H' s, Kp [] H H' → H o = none → DDt K [] H' o s → GrpS cs s → Q (.ref o) H')
theorem dr_noZ {K : PySem.W.Frag} {Z Z' : List Addr} {H : Hp} {r : List (List Key × V)} {s : List (List Key × PyData)} (h : DR K Z H r s) (n : ∀ x ∈ s, noL x.2 = true) : DR K Z' H r s := by
  induction h with
  | nil => exact .nil
  | cons a _ ih => exact .cons (dt_noZ _ _ (n _ List.mem_cons_self) a) (ih fun x hx => n x (List.mem_cons_of_mem _ hx))
theorem Hs_newD {K : PySem.W.Frag} {B : Bs} {Z : List Addr} {H : Hp} {L : List Ent} {M : List (List V × List PyData)} {F : Ent → List Ent} {o : Addr} {s : List (List Key × PyData)} (h : Hs K B Z H L M) (l : Loc L (.dd K o s true) F) (nw : o ∉ B.W) : B.H0 o = none := by
  rcases h.wr _ l.mem rfl o (by simp [Ent.dd]) with z | z
  · exact absurd z nw
  · exact z
theorem noBs_pr (l : List (Int × Int)) : noBs (l.map ePr) = true := noBs_map ePr (fun _ => rfl) l
theorem grp_noL {cs : List Ch} {sd : List (List Key × PyData)} (g : GrpS cs sd) : ∀ x ∈ sd, noL x.2 = true := fun x hx => by
  rw [(g.m x hx).1]
  exact noLs_map ePr (fun _ => rfl) _
theorem good_le {l : List Ch} (h : goodG l = true) (c : Ch) : (l.filter (fun d => sameK d c)).length ≤ 4 := by
  cases e : l.filter (fun d => sameK d c) with
  | nil => simp
  | cons d r =>
    have hd : d ∈ l.filter (fun d => sameK d c) := by rw [e]; exact List.mem_cons_self
    obtain ⟨h1, h2⟩ := List.mem_filter.mp hd
    have k := sameK_iff.mp h2
    have q := (goodG_iff.mp h d h1).2
    have e2 : l.filter (fun x => sameK x d) = l.filter (fun x => sameK x c) := by
      refine List.filter_congr fun x _ => ?_
      unfold sameK
      rw [k.1, k.2.1, k.2.2]
    rw [e2, e] at q
    exact q

section
variable {P : Program} {w : World} {K : PySem.W.Frag} {mg : Str → Option Value} {base : Heap} {CPlainBook COddsError CBadShare CBadText CBadBook CBadMove CBadProgram CBadPlan CUnfit CTooLarge CBadEdit : Addr}
theorem ok_check_choice (T : Txt K mg CPlainBook COddsError CBadShare CBadText CBadBook CBadMove CBadProgram CBadPlan CUnfit CTooLarge CBadEdit) : Fc P w K mg base (L2.CX P w) 2 "check_choice" ["choice", "states"] (spChk K CBadBook) := by
  refine fc_ofX T.d_check_choice sc_check_choice (fun vs H Q E h => by obtain ⟨Z, c, s, v, rfl, _⟩ := h; rfl) (fun _ _ _ _ _ _ us hl => match us, hl with | [_, _], _ => rfl) fun f cdv A outer s H vs Q E hr h => ⟨_, (pss_cons (ps_asg (pv 0) (pgTK K 5 (by rfl) (pgs_cons (pg_name (i := 2) sc_check_choice.nd rfl (Or.inl rfl)) (pgs_cons (pg_name (i := 3) sc_check_choice.nd rfl (Or.inl rfl)) (pgs_cons (pg_name (i := 4) sc_check_choice.nd rfl (Or.inl rfl)) (pgs_cons (pg_name (i := 5) sc_check_choice.nd rfl (Or.inl rfl)) (pgs_cons (pg_name (i := 6) sc_check_choice.nd rfl (Or.inl rfl)) pgs_nil)))))))
 (pss_cons (ps_if (pt_not (pt_val (pe_fc (ok_is_name T) pass0 (hr.mono (by omega)) (pa_cons (pv 2) pa_nil))))
 (pss_one (ps_raise rfl (takes_of rfl rfl rfl rfl) (pmk_own PySem.F.excBase_ValueError T.x_BadBook T.e_BadBook.g T.e_BadBook.k (raises_own T.e_BadBook.b T.e_BadBook.t) rfl)))
 pss_nil)
 (pss_cons (ps_if (PW.pt (pw_or (pt_not (pt_chain op_le op_lt pe_int (pv 3) (pv 1))) (pw_or1 (pt_not (pt_chain op_le op_lt pe_int (pv 5) (pv 1))))))
 (pss_one (ps_raise rfl (takes_of rfl rfl rfl rfl) (pmk_own PySem.F.excBase_ValueError T.x_BadBook T.e_BadBook.g T.e_BadBook.k (raises_own T.e_BadBook.b T.e_BadBook.t) rfl)))
 pss_nil)
 (pss_one (ps_if (PW.pt (pw_or (pt_not (pt_chain op_le op_lt pe_int (pv 4) (C8.pe_gc (v := .int 8) rfl T.g_VALUE_LIMIT))) (pw_or1 (pt_not (pt_chain op_le op_lt pe_int (pv 6) (C8.pe_gc (v := .int 8) rfl T.g_VALUE_LIMIT))))))
 (pss_one (ps_raise rfl (takes_of rfl rfl rfl rfl) (pmk_own PySem.F.excBase_ValueError T.x_BadBook T.e_BadBook.g T.e_BadBook.k (raises_own T.e_BadBook.b T.e_BadBook.t) rfl)))
 pss_nil))))), ?_⟩
  obtain ⟨Z, c, st, v, rfl, zl, hv, hl, hB, hG⟩ := h
  have hs : Hs K ⟨H, [], Z⟩ Z H [] [([v], [eCh c])] := (Hs.start (fun _ z => by cases z) zl).fact1 hv
  have nb : ¬ (isName c.nm = true ∧ 0 ≤ c.h ∧ c.h < st ∧ 0 ≤ c.t ∧ c.t < st ∧ 0 ≤ c.a ∧ c.a ≤ 7 ∧ 0 ≤ c.r ∧ c.r ≤ 7) → okCh st c = false := fun h => by rw [← Bool.not_eq_true, okCh_iff]; exact h
  tm_at "go"
  · exact hG (okCh_iff.mpr ⟨by assumption, by omega, by omega, by omega, by omega, by omega, by omega, by omega, by omega⟩) _ (show Hs K ⟨H, [], Z⟩ _ _ _ _ from by assumption).kp
  all_goals refine hB (nb fun z => ?_) _ (show Hs K ⟨H, [], Z⟩ _ _ _ _ from by assumption).kp
  all_goals first
    | omega
    | (have y := z.1; rw [show isName c.nm = false from by assumption] at y; cases y)
theorem ok_grouped_options (T : Txt K mg CPlainBook COddsError CBadShare CBadText CBadBook CBadMove CBadProgram CBadPlan CUnfit CTooLarge CBadEdit) : Fc P w K mg base (L2.CX P w) 1 "grouped_options" ["choices"] (spGrp K CBadBook) := by
  refine fc_ofX T.d_grouped_options sc_grouped_options (fun vs H Q E h => by obtain ⟨Z, cs, v, rfl, _⟩ := h; rfl) (fun _ _ _ _ _ _ us hl => match us, hl with | [_], _ => rfl) fun f cdv A outer s H vs Q E hr h => ⟨_, (pss_cons (ps_set (i := 1) sc_grouped_options.nd rfl (Or.inl rfl) pe_dnewT)
 (pss_cons (ps_for (passes_of rfl) rfl (piTK K (pv 0)) (pgTK K 5 (by rfl) (pgs_cons (pg_name (i := 2) sc_grouped_options.nd rfl (Or.inl rfl)) (pgs_cons (pg_name (i := 3) sc_grouped_options.nd rfl (Or.inl rfl)) (pgs_cons (pg_name (i := 4) sc_grouped_options.nd rfl (Or.inl rfl)) (pgs_cons (pg_name (i := 5) sc_grouped_options.nd rfl (Or.inl rfl)) (pgs_cons (pg_name (i := 6) sc_grouped_options.nd rfl (Or.inl rfl)) pgs_nil))))))
 (pss_cons (ps_set (i := 7) sc_grouped_options.nd rfl (Or.inl rfl) (pe_tup (pa_cons (pv 2) (pa_cons (pv 3) (pa_cons (pv 4) pa_nil)))))
 (pss_cons (ps_set (i := 8) sc_grouped_options.nd rfl (Or.inl rfl) (pe_dget2 (hu_of hr) (pv 1) (pv 7) (pe_tup pa_nil) ⟨rfl, rfl, rfl, rfl⟩))
 (pss_cons (ps_if (pt_cmpR (inAK K hr.units) (pe_tup (pa_cons (pv 5) (pa_cons (pv 6) pa_nil))) (pv 8) rfl)
 (pss_one (ps_raise rfl (takes_of rfl rfl rfl rfl) (pmk_own PySem.F.excBase_ValueError T.x_BadBook T.e_BadBook.g T.e_BadBook.k (raises_own T.e_BadBook.b T.e_BadBook.t) rfl)))
 pss_nil)
 (pss_cons (ps_if (pt_cmpR op_eq (pe_callB (lenK K) (by rfl) T.n_len b_len (pa_cons (pv 8) pa_nil)) (C8.pe_gc (v := .int 4) rfl T.g_MOST_OPTIONS) (nomark _))
 (pss_one (ps_raise rfl (takes_of rfl rfl rfl rfl) (pmk_own PySem.F.excBase_ValueError T.x_BadBook T.e_BadBook.g T.e_BadBook.k (raises_own T.e_BadBook.b T.e_BadBook.t) rfl)))
 pss_nil)
 (PSs.nox (pss_one (ps_dput (hu_of hr) (pv 1) (pv 7) (pe_op (catAK K) (pv 8) (pe_tup (pa_cons (pe_tup (pa_cons (pv 5) (pa_cons (pv 6) pa_nil))) pa_nil))) rfl))))))))
 (PSs.nox (pss_one (ps_ret (pv 1)))))), ?_⟩
  obtain ⟨Z, cs, v, rfl, zl, hv, pre, hB, hG⟩ := h
  have hs : Hs K ⟨H, [], Z⟩ Z H [] [([v], [.tuple (cs.map eCh)])] := (Hs.start (fun _ z => by cases z) zl).fact1 hv
  have lc : (cs.map eCh).length = cs.length := List.length_map _
  have hcl := pre.1
  have bad : ∀ (i : Nat) (c : Ch), cs[i]? = some c → ¬ gstep (cs.take i) c → goodG cs = false := fun i c hc h => by
    rw [← Bool.not_eq_true]
    intro z
    have z := good_take z (i + 1)
    rw [_root_.Fr.take_more hc, good_snoc] at z
    exact h z.2
  tm_at "go"
  refine l_dt (cs.map eCh) (fun i σ H' => ∃ (o : Addr) (s : List (List Key × PyData)) (u2 u3 u4 u5 u6 u7 u8 : Option V), σ = [some v, some (.ref o), u2, u3, u4, u5, u6, u7, u8] ∧ GrpS (cs.take i) s ∧ goodG (cs.take i) = true ∧ Hs K ⟨H, [], Z⟩ Z H' [.dd K o s true] [([v], [.tuple (cs.map eCh)])]) ?_ ?_ ?_ ?_
  · exact ⟨_, _, none, none, none, none, none, none, none, rfl, GrpS.nil, rfl, by assumption⟩
  · rintro i σ H' hi ⟨o, s, u2, u3, u4, u5, u6, u7, u8, rfl, _, _, hs2⟩
    exact ⟨Z, by tm_at "dt"⟩
  · rintro i d x σ H' hd hx ⟨o, s, u2, u3, u4, u5, u6, u7, u8, rfl, gs, gg, hs2⟩
    obtain ⟨c, hc, rfl⟩ := at_map hd
    have hi : i < cs.length := (List.getElem?_eq_some_iff.mp hc).1
    have hsl := gs.l
    have htl : (cs.take i).length ≤ i := by rw [List.length_take]; omega
    have hs3 := hs2.fact1 (hx Z (by tm_at "dt"))
    tm_at "run"
    rename_i hq9
    refine h_dgB (s := s) (dz := .tuple []) (w := true) (keyOf c) hq9 .here (show Dt K Z _ _ (.tuple [.str c.nm, .int c.h, .int c.a]) from by tm_at "dt") (by tm_at "dt") fun y hy => ?_
    rw [gs.get] at hy
    have hk := optsK_len (cs.take i) c
    have hl : ((cs.take i).filter (fun d => sameK d c)).length ≤ i := Nat.le_trans (List.length_filter_le _ _) htl
    have lm : ((optsK (cs.take i) (keyOf c)).map ePr).length = ((cs.take i).filter (fun d => sameK d c)).length := by rw [List.length_map, hk]
    have ai := any_iff (xs := (optsK (cs.take i) (keyOf c)).map ePr) (d := ePr (c.t, c.r)) (noBs_pr _) rfl
    have mi : ePr (c.t, c.r) ∈ (optsK (cs.take i) (keyOf c)).map ePr ↔ c ∈ cs.take i := by
      rw [List.mem_map]
      constructor
      · rintro ⟨⟨a, b⟩, ha, e⟩
        simp only [ePr, PyData.tuple.injEq, List.cons.injEq, PyData.int.injEq, and_true] at e
        rw [e.1, e.2] at ha
        exact optsK_mem.mp ha
      · exact fun h => ⟨_, optsK_mem.mpr h, rfl⟩
    tm_at "run"
    · rename_i hq8 hb
      exact hB (bad i c hc fun z => z.1 (mi.mp (ai.mp hb))) _ hq8.kp
    · rename_i hq8 _ hc4
      exact hB (bad i c hc fun z => by have := z.2; omega) _ hq8.kp
    · rename_i hq8
      have hb : (((optsK (cs.take i) (keyOf c)).map ePr).any fun y => PyData.eqv y (ePr (c.t, c.r))) = false := by assumption
      refine h_dpA (s := s) (keyOf c) hq8 .here (show Dt K Z _ _ (.tuple [.str c.nm, .int c.h, .int c.a]) from by tm_at "dt") (by tm_at "dt") (by omega) fun H6 hq6 => ?_
      refine ⟨o, _, _, _, _, _, _, _, _, rfl, ?_, ?_, by tm_at "wk"⟩
      · rw [_root_.Fr.take_more hc]; exact gs.snoc c
      · rw [_root_.Fr.take_more hc, good_snoc]
        exact ⟨gg, (show c ∉ cs.take i ∧ _ < 4 from ⟨fun z => (by rw [ai.mpr (mi.mpr z)] at hb; cases hb), by have := good_le gg c; omega⟩)⟩
  · rintro σ H' ⟨o, s, u2, u3, u4, u5, u6, u7, u8, rfl, gs, gg, hs2⟩
    rw [lc, List.take_length] at gs gg
    tm_at "run"
    obtain ⟨r, e, dr⟩ := (hs2.get .here : DDt K Z _ o s)
    exact hG gg o _ s hs2.kp (Hs_newD hs2 .here (by simp)) ⟨r, e, dr_noZ dr (grp_noL gs)⟩ gs

end
end My
set_option Elab.async false
set_option linter.all false
set_option autoImplicit false
set_option maxRecDepth 100000
set_option maxHeartbeats 4000000
namespace My
open PySem PySem.Spec PyProof.Rows L2 U
local macro_rules | `(tactic| tm_at "step") => `(tactic| first | (with_reducible refine br_b ?_ ?_ <;> intro hb_) | fail)

/-! my own steps: rows of tactics, tried from above -/
local macro_rules | `(tactic| tm_at "lk") => `(tactic| first | with_reducible assumption | (with_reducible refine' Kp.get0 ?k1 ?k2; (case k1 => with_reducible assumption); (case k2 => tm_at "lk")) | (with_reducible refine' Kp.get1 ?k1 ?k3 ?k2; (case k1 => with_reducible assumption); (case k3 => tm_at "ne"); (case k2 => tm_at "lk")) | fail)
local macro_rules | `(tactic| tm_at "lp") => `(tactic| first | with_reducible assumption | (with_reducible refine' Pool.kp0 ?k1 ?k2; (case k1 => with_reducible assumption); (case k2 => tm_at "lp")) | (with_reducible refine' Pool.kp1 ?k1 ?k3 ?k2; (case k1 => with_reducible assumption); (case k3 => tm_at "ne"); (case k2 => tm_at "lp")) | fail)
local macro_rules | `(tactic| tm_at "ls") => `(tactic| first | with_reducible assumption | (with_reducible refine' Scr.kp0 ?k1 ?k2; (case k1 => with_reducible assumption); (case k2 => tm_at "ls")) | (with_reducible refine' Scr.kp1 ?k1 ?k3 ?k4 ?k2; (case k1 => with_reducible assumption); (case k3 => with_reducible assumption); (case k4 => tm_at "ls"); (case k2 => tm_at "ls")) | fail)
local macro_rules | `(tactic| tm_at "ne") => `(tactic| first | with_reducible assumption | (with_reducible refine' Ne.symm ?k1; with_reducible assumption) | (with_reducible refine' ne_new ?k1 ?k2; (case k1 => with_reducible assumption); (case k2 => tm_at "lk")) | (with_reducible refine' ne_new' ?k1 ?k2; (case k1 => with_reducible assumption); (case k2 => tm_at "lk")) | (with_reducible refine' Pool.ne ?k1 ?k2; (case k1 => with_reducible assumption); (case k2 => tm_at "lp")) | (with_reducible refine' Ne.symm (Pool.ne ?k1 ?k2); (case k1 => with_reducible assumption); (case k2 => tm_at "lp")) | fail)
local macro_rules | `(tactic| tm_at "kc") => `(tactic| first | with_reducible assumption | with_reducible exact Kp.refl | (with_reducible refine' Kp.trans ?k1 (Kp.of0 ?k2); (case k2 => with_reducible assumption); (case k1 => tm_at "kc")) | (with_reducible refine' Kp.trans ?k1 ?k2; (case k2 => with_reducible assumption); (case k1 => tm_at "kc")) | (with_reducible refine' Kp.low' ?k1 ?k2 ?k3 ?k4; (case k2 => with_reducible assumption); (case k3 => with_reducible assumption); (case k1 => tm_at "kc"); (case k4 => tm_at "kc")) | fail)
local macro_rules | `(tactic| tm_at "sq") => `(tactic| first | (with_reducible refine' sql ?k9; (case k9 => tm_at "lk")) | (with_reducible refine' Scr.sq ?k9; (case k9 => tm_at "ls")) | fail)
local macro_rules | `(tactic| tm_at "sqt") => `(tactic| first | (with_reducible refine' sqt ?k9; (case k9 => tm_at "lk")) | fail)
local macro_rules | `(tactic| tm_at "bt") => `(tactic| first | with_reducible assumption | (with_reducible refine' Bt.mul ?k1 ?k2; (case k1 => tm_at "bt"); (case k2 => tm_at "bt")) | (with_reducible refine' Bt.addM ?k1 ?k2; (case k1 => tm_at "bt"); (case k2 => tm_at "bt")) | (with_reducible refine' Bt.subM ?k1 ?k2; (case k1 => tm_at "bt"); (case k2 => tm_at "bt")) | (with_reducible refine' Bt.neg ?k1; (case k1 => tm_at "bt")) | fail)
local macro_rules | `(tactic| tm_at "bm") => `(tactic| first | with_reducible assumption | (with_reducible refine' Bt.mono ?k1 ?k2; (case k1 => with_reducible assumption); (case k2 => k_dflt decide)) | fail)
local macro_rules | `(tactic| tm_at "side") => `(tactic| first | with_reducible assumption | (with_reducible refine' Bt.cmul ?k1 ?k2 ?k3; (case k1 => tm_at "bt"); (case k2 => tm_at "bt"); (case k3 => k_dflt decide)) | (with_reducible refine cmul_of ?k1; (case k1 => omega)) | (with_reducible refine cpow_of ?k1; (case k1 => omega)) | (with_reducible refine cdivw_of ?k1; (case k1 => omega)) | (with_reducible refine cdivw_big ?k1; (case k1 => omega)) | (with_reducible refine cmulx_of ?k1; (case k1 => omega)) | omega | fail)
local macro_rules | `(tactic| tm_at "step") => `(tactic| first
  | with_reducible refine u_op ?_
  | (with_reducible refine' u_var ?k1 ?_; (case k1 => k_dflt rfl))
  | with_reducible refine u_c ?_
  | with_reducible refine u_I0 ?_
  | with_reducible refine u_seq ?_
  | with_reducible refine u_asg ?_
  | with_reducible refine g_name ?_
  | with_reducible refine u_cb ?_
  | with_reducible refine u_cons ?_
  | with_reducible refine u_nil ?_
  | (with_reducible refine' u_pow ?k1 ?k2 ?_; (case k1 => k_dflt (tm_at "side")); (case k2 => (conv => lhs; simp only [Int.reduceToNat, Int.reducePow]) <;> rfl))
  | (with_reducible refine' u_I ?k1 ?_; (case k1 => k_dflt (tm_at "side")))
  | with_reducible refine u_int1 ?_
  | with_reducible refine u_intB ?_
  | with_reducible refine u_if ?_
  | with_reducible refine u_test ?_
  | with_reducible refine u_tb ?_
  | with_reducible refine u_tB ?_
  | with_reducible refine u_eqI ?_
  | with_reducible refine u_neI ?_
  | with_reducible refine u_eqB ?_
  | with_reducible refine u_and ?_
  | with_reducible refine u_or ?_
  | with_reducible refine u_not ?_
  | with_reducible refine u_andV ?_
  | with_reducible refine u_orV ?_
  | with_reducible refine u_notV ?_
  | with_reducible refine br_t ?_
  | with_reducible refine br_f ?_
  | with_reducible refine br_nt ?_
  | with_reducible refine br_nf ?_
  | with_reducible refine br_n ?_
  | with_reducible refine u_ret ?_
  | with_reducible refine u_next ?_
  | with_reducible refine u_drop ?_
  | with_reducible refine u_un ?_
  | with_reducible refine u_U ?_
  | with_reducible refine u_call ?_
  | with_reducible refine u_fldN ?_
  | with_reducible refine g_sub ?_
  | with_reducible refine g_cons ?_
  | with_reducible refine g_nil ?_
  | with_reducible refine u_tpar ?_
  | (with_reducible refine u_absL ?_; intro m_ h1_ h2_)
  | (with_reducible refine u_maxL ?_; intro m_ h1_ h2_ h3_)
  | (with_reducible refine u_minL ?_; intro m_ h1_ h2_ h3_)
  | with_reducible refine u_gcd ?_
  | with_reducible refine u_isi_ii ?_
  | with_reducible refine u_isi_ib ?_
  | with_reducible refine u_isi_bb ?_
  | with_reducible refine u_tupN ?_
  | with_reducible refine u_lstN ?_
  | (with_reducible refine' u_ixL ?k1 ?k2 ?_; (case k1 => tm_at "sq"); (case k2 => first | with_reducible assumption | k_dflt rfl))
  | (with_reducible refine' u_ixT ?k1 ?k2 ?_; (case k1 => tm_at "sqt"); (case k2 => k_dflt rfl))
  | (with_reducible refine' g_tup ?k1 ?k2 ?_; (case k1 => tm_at "sqt"); (case k2 => k_dflt rfl))
  | (with_reducible refine' u_lenL ?k1 ?_; (case k1 => tm_at "sq"))
  | (with_reducible refine' u_lenT ?k1 ?_; (case k1 => tm_at "sqt"))
  | with_reducible refine u_for ?_
  | with_reducible refine u_iL ?_
  | with_reducible refine u_iT ?_
  | with_reducible refine u_r1 ?_
  | with_reducible refine u_r2 ?_
  | (with_reducible refine' u_iLq ?k1 ?_; (case k1 => tm_at "sq"))
  | (with_reducible refine' u_iTq ?k1 ?_; (case k1 => tm_at "sqt"))
  | (with_reducible refine' u_r1q ?k1 ?_; (case k1 => (constructor <;> omega)))
  | (with_reducible refine' u_r2q ?k1 ?_; (case k1 => (refine ⟨?_, ?_, ?_, ?_⟩ <;> omega)))
  | with_reducible refine u_lc ?_
  | with_reducible refine u_yes ?_
  | (with_reducible refine endQ ?k1 ?_; (case k1 => k_dflt rfl))
  | with_reducible refine u_meth ?_
  | with_reducible refine u_callS ?_
  | with_reducible refine u_bm ?_
  | (with_reducible refine' bm_list ?k1 ?_; (case k1 => tm_at "lk"))
  | (with_reducible refine' u_append ?k1 ?k2 ?_; (case k1 => tm_at "lk"); (case k2 => omega); intro H_ hk_ ho_)
  | (with_reducible refine' appE ?k1 ?k2 ?_; (case k1 => tm_at "lk"); (case k2 => omega); intro H_ hk_ ho_)
  | with_reducible refine u_sl ?_
  | with_reducible refine u_noPart ?_
  | with_reducible refine u_part ?_
  | with_reducible refine u_intq ?_
  | (with_reducible refine' u_slL ?k1 ?_; (case k1 => tm_at "sq"); intro p_ H_ hn_ hk_ ho_)
  | (with_reducible refine' n_tup ?k1 ?_; (case k1 => k_dflt (exact Nat.le_of_ble_eq_true rfl)); intro p_ H_ hn_ hk_ ho_)
  | (with_reducible refine' n_lst ?k1 ?_; (case k1 => k_dflt (exact Nat.le_of_ble_eq_true rfl)); intro p_ H_ hn_ hk_ ho_)
  | (with_reducible refine' s_list ?k1 ?k2 ?_; (case k1 => tm_at "lk"); (case k2 => k_dflt rfl); intro H_ hk_ ho_)
  | (with_reducible refine br_d ?_ ?_ <;> intro hc_) | fail)
local macro_rules | `(tactic| tm_at "run") => `(tactic| repeat' tm_at "step")
local macro_rules | `(tactic| tm_at "go") => `(tactic| ((try dsimp only [cxOf, Cx.nox, Cx.wish]); tm_at "run"))

/-! steps over Hs -/
local macro_rules | `(tactic| tm_at "mem") => `(tactic| first | with_reducible exact List.mem_cons_self | (with_reducible refine' List.mem_cons_of_mem _ ?k1; (case k1 => tm_at "mem")) | fail)
local macro_rules | `(tactic| tm_at "loc") => `(tactic| first | with_reducible exact Loc.here | (with_reducible refine' Loc.there ?k1; (case k1 => tm_at "loc")) | fail)
local macro_rules | `(tactic| tm_at "rem") => `(tactic| first | with_reducible exact Rem.here | (with_reducible refine' Rem.there ?k1; (case k1 => tm_at "rem")) | fail)
local macro_rules | `(tactic| tm_at "suf") => `(tactic| first | with_reducible exact Suf.refl | (with_reducible refine' Suf.keep ?k1; (case k1 => tm_at "suf")) | (with_reducible refine' Suf.cons ?k1; (case k1 => tm_at "suf")) | fail)
local macro_rules | `(tactic| tm_at "wk") => `(tactic| first | with_reducible assumption | (with_reducible refine' Hs.wk ?k1 ?k2 ?k3; (case k1 => with_reducible assumption); (case k2 => tm_at "suf"); (case k3 => tm_at "suf")) | fail)
local macro_rules | `(tactic| tm_at "dt") => `(tactic| first | with_reducible exact Dt.int _ | with_reducible exact Dt.str _ | with_reducible exact Dt.bl _ | with_reducible exact Dt.non | with_reducible assumption | (with_reducible refine' Hs.dt ?k1 ?k2; (case k1 => with_reducible assumption); (case k2 => tm_at "mem")) | (with_reducible refine' Hs.dtup ?k1 ?k2 ?k3; (case k1 => with_reducible assumption); (case k2 => tm_at "loc"); (case k3 => tm_at "dts")) | fail)
local macro_rules | `(tactic| tm_at "dts") => `(tactic| first | with_reducible exact Dts.nil | (with_reducible refine' Dts.cons ?k1 ?k2; (case k1 => tm_at "dt"); (case k2 => tm_at "dts")) | with_reducible assumption | (with_reducible refine' Hs.dts ?k1 ?k2; (case k1 => with_reducible assumption); (case k2 => tm_at "mem")) | fail)
local macro_rules | `(tactic| tm_at "da") => `(tactic| first | (with_reducible refine' Da.imm ?k1; (case k1 => tm_at "dt")) | (with_reducible refine' Hs.dlst ?k1 ?k2; (case k1 => with_reducible assumption); (case k2 => tm_at "loc")) | fail)
local macro_rules | `(tactic| tm_at "lr") => `(tactic| first | with_reducible assumption | (with_reducible refine' Hs.dlv ?k1 ?k2; (case k1 => with_reducible assumption); (case k2 => tm_at "loc")) | (with_reducible refine' Dt.dlv ?k1; (case k1 => tm_at "dt")) | fail)
local macro_rules | `(tactic| tm_at "zs") => `(tactic| first | with_reducible assumption | with_reducible exact List.Subset.refl _ | (with_reducible refine' List.Subset.trans ?k1 ?k2; (case k2 => with_reducible assumption); (case k1 => tm_at "zs")) | (with_reducible refine' List.Subset.trans ?k1 (List.subset_cons_self _ _); (case k1 => tm_at "zs")) | fail)
local macro_rules | `(tactic| tm_at "at") => `(tactic| first | with_reducible assumption | k_dflt rfl | fail)
local macro_rules | `(tactic| tm_at "dep") => `(tactic| first | with_reducible assumption | (with_reducible refine' Nat.le_trans (Nat.min_le_left _ _) ?k1; (case k1 => first | with_reducible assumption | exact Nat.le_of_ble_eq_true rfl)) | (with_reducible refine' Nat.le_trans (Nat.min_le_right _ _) ?k1; (case k1 => first | with_reducible assumption | exact Nat.le_of_ble_eq_true rfl)) | fail)
local macro_rules | `(tactic| tm_at "mono") => `(tactic| (intro φ ψ h s; repeat' (first | exact fun r1 r2 r3 r4 => h _ (s r1 r2 r3 r4) | exact fun r1 r2 r3 => h _ (s r1 r2 r3) | exact fun r1 r2 => h _ (s r1 r2) | exact fun r1 => h _ (s r1) | exact h _ s | (obtain ⟨x, s⟩ := s; refine ⟨x, ?_⟩))))
local macro_rules | `(tactic| tm_at "sz") => `(tactic| first | with_reducible assumption | omega | k_dflt (exact Nat.le_of_ble_eq_true rfl) | (simp only [List.length_map, List.length_append, List.length_cons, List.length_nil]; omega) | fail)
local macro_rules | `(tactic| tm_at "pre") => `(tactic| first | with_reducible assumption | trivial | omega | (refine ⟨?_, ?_⟩ <;> tm_at "pre") | fail)
local macro_rules | `(tactic| tm_at "step") => `(tactic| first
  | (with_reducible refine' h_ixTi ?k1 ?k2 ?_; (case k1 => tm_at "dt"); (case k2 => tm_at "at"))
  | (with_reducible refine' h_ixTs ?k1 ?k2 ?_; (case k1 => tm_at "dt"); (case k2 => tm_at "at"))
  | (with_reducible refine' h_ixTb ?k1 ?k2 ?_; (case k1 => tm_at "dt"); (case k2 => tm_at "at"))
  | (with_reducible refine' h_ixTn ?k1 ?k2 ?_; (case k1 => tm_at "dt"); (case k2 => tm_at "at"))
  | (with_reducible refine' h_ixT ?k0 ?k1 ?k2 ?_; (case k0 => with_reducible assumption); (case k1 => tm_at "dt"); (case k2 => tm_at "at"); intro x_ hd_ hs_)
  | (with_reducible refine' h_ixLi ?k0 ?k1 ?k2 ?_; (case k0 => with_reducible assumption); (case k1 => tm_at "lr"); (case k2 => tm_at "at"))
  | (with_reducible refine' h_ixLs ?k0 ?k1 ?k2 ?_; (case k0 => with_reducible assumption); (case k1 => tm_at "lr"); (case k2 => tm_at "at"))
  | (with_reducible refine' h_ixLb ?k0 ?k1 ?k2 ?_; (case k0 => with_reducible assumption); (case k1 => tm_at "lr"); (case k2 => tm_at "at"))
  | (with_reducible refine' h_ixL ?k0 ?k1 ?k2 ?_; (case k0 => with_reducible assumption); (case k1 => tm_at "lr"); (case k2 => tm_at "at"); intro x_ hd_ hs_)
  | (with_reducible refine' h_gtup ?k1 ?k2 ?_; (case k1 => tm_at "dt"); (case k2 => k_dflt rfl); intro xs_ hq_)
  | (with_reducible refine' h_gci ?k1 ?_; (case k1 => with_reducible assumption); intro xs_ hq_)
  | (with_reducible refine' h_gcs ?k1 ?_; (case k1 => with_reducible assumption); intro xs_ hq_)
  | (with_reducible refine' h_gcb ?k1 ?_; (case k1 => with_reducible assumption); intro xs_ hq_)
  | (with_reducible refine' h_gcn ?k1 ?_; (case k1 => with_reducible assumption); intro xs_ hq_)
  | (with_reducible refine' h_gc ?k0 ?k1 ?_; (case k0 => with_reducible assumption); (case k1 => with_reducible assumption); intro x_ xs_ hq_ hs_)
  | (with_reducible refine' h_gn ?k1 ?_; (case k1 => with_reducible assumption))
  | (with_reducible refine' h_lenL ?k1 ?_; (case k1 => tm_at "lr"))
  | (with_reducible refine' h_lenT ?k1 ?_; (case k1 => tm_at "dt"))
  | (with_reducible refine' h_tup ?k0 ?k1 ?k2 ?_; (case k0 => with_reducible assumption); (case k1 => k_dflt (exact Nat.le_of_ble_eq_true rfl)); (case k2 => tm_at "dts"); intro p_ H_ hs_)
  | (with_reducible refine' h_lst ?k0 ?k1 ?k2 ?_; (case k0 => with_reducible assumption); (case k1 => k_dflt (exact Nat.le_of_ble_eq_true rfl)); (case k2 => tm_at "dts"); intro p_ H_ hs_)
  | (with_reducible refine' h_tupO ?k0 ?k1 ?_; (case k0 => with_reducible assumption); (case k1 => k_dflt (exact Nat.le_of_ble_eq_true rfl)); intro p_ H_ hs_)
  | (with_reducible refine' h_lstO ?k0 ?k1 ?_; (case k0 => with_reducible assumption); (case k1 => k_dflt (exact Nat.le_of_ble_eq_true rfl)); intro p_ H_ hs_)
  | fail)
local macro_rules | `(tactic| tm_at "step") => `(tactic| first
  | (with_reducible refine' h_bmL ?k0 ?k1 ?_; (case k0 => with_reducible assumption); (case k1 => tm_at "loc"))
  | (with_reducible refine' h_app ?k0 ?k1 ?k2 ?k3 ?_; (case k0 => with_reducible assumption); (case k1 => tm_at "loc"); (case k2 => tm_at "dt"); (case k3 => tm_at "sz"); intro H_ hs_)
  | (with_reducible refine' h_setL ?k0 ?k1 ?k2 ?k3 ?_; (case k0 => with_reducible assumption); (case k1 => tm_at "loc"); (case k2 => tm_at "dt"); (case k3 => tm_at "at"); intro H_ hs_)
  | (with_reducible refine' h_slL ?k0 ?k1 ?_; (case k0 => with_reducible assumption); (case k1 => tm_at "lr"); intro p_ H_ hs_)
  | (with_reducible refine' h_sl3 ?k0 ?k1 ?_; (case k0 => with_reducible assumption); (case k1 => tm_at "dt"); intro p_ H_ hs_)
  | (with_reducible refine' h_slf1 ?k0 ?k1 ?_; (case k0 => with_reducible assumption); (case k1 => tm_at "dt"); intro p_ H_ hs_)
  | (with_reducible refine' h_slT ?k0 ?k1 ?_; (case k0 => with_reducible assumption); (case k1 => tm_at "dt"); intro p_ H_ hs_)
  | (with_reducible refine' h_catLe ?k0 ?k1 ?k2 ?k3 ?k4 ?_; (case k0 => with_reducible assumption); (case k1 => tm_at "lr"); (case k2 => tm_at "lr"); (case k3 => tm_at "sz"); (case k4 => ((try simp only [List.cons_append, List.nil_append]); k_dflt rfl)); intro p_ H_ hs_)
  | (with_reducible refine' h_catTe ?k0 ?k1 ?k2 ?k3 ?k4 ?_; (case k0 => with_reducible assumption); (case k1 => tm_at "dt"); (case k2 => tm_at "dt"); (case k3 => tm_at "sz"); (case k4 => ((try simp only [List.cons_append, List.nil_append]); k_dflt rfl)); intro p_ H_ hs_)
  | (with_reducible refine' h_extL ?k0 ?k1 ?k2 ?k3 ?_; (case k0 => with_reducible assumption); (case k1 => tm_at "loc"); (case k2 => tm_at "lr"); (case k3 => tm_at "sz"); intro H_ hs_)
  | (with_reducible refine' h_tupOfL ?k0 ?k1 ?_; (case k0 => with_reducible assumption); (case k1 => tm_at "lr"); intro p_ H_ hs_)
  | (with_reducible refine' h_tupOfT ?k1 ?_; (case k1 => tm_at "dt"))
  | (with_reducible refine' h_listOfL ?k0 ?k1 ?_; (case k0 => with_reducible assumption); (case k1 => tm_at "lr"); intro p_ H_ hs_)
  | (with_reducible refine' h_listOfT ?k0 ?k1 ?_; (case k0 => with_reducible assumption); (case k1 => tm_at "dt"); intro p_ H_ hs_)
  | (with_reducible refine' h_eq ?k1 ?k2 ?k3 ?_; (case k1 => tm_at "da"); (case k2 => tm_at "da"); (case k3 => tm_at "dep"))
  | (with_reducible refine' h_ne ?k1 ?k2 ?k3 ?_; (case k1 => tm_at "da"); (case k2 => tm_at "da"); (case k3 => tm_at "dep"))
  | (with_reducible refine' h_inL ?k1 ?k2 ?k3 ?_; (case k1 => tm_at "dt"); (case k2 => tm_at "da"); (case k3 => tm_at "dep"))
  | (with_reducible refine' h_niL ?k1 ?k2 ?k3 ?_; (case k1 => tm_at "dt"); (case k2 => tm_at "da"); (case k3 => tm_at "dep"))
  | (with_reducible refine' h_inT ?k1 ?k2 ?k3 ?_; (case k1 => tm_at "dt"); (case k2 => tm_at "dt"); (case k3 => tm_at "dep"))
  | (with_reducible refine' h_niT ?k1 ?k2 ?k3 ?_; (case k1 => tm_at "dt"); (case k2 => tm_at "dt"); (case k3 => tm_at "dep"))
  | with_reducible refine u_chain ?_
  | (with_reducible refine' h_min4 ?k1 ?_; (case k1 => tm_at "dt"); intro m_ h1_ h2_ h3_ h4_ h5_)
  | (with_reducible refine' h_iL ?k1 ?_; (case k1 => tm_at "lr"))
  | (with_reducible refine' h_iT ?k1 ?_; (case k1 => tm_at "dt"))
  | (with_reducible refine' lcE ?k1 ?k2 ?k3 ?k4 ?k5 ?_; (case k1 => tm_at "wk"); (case k2 => tm_at "zs"); (case k3 => omega); (case k4 => omega); (case k5 => tm_at "dt"))
  | (with_reducible refine' lcS ?k1 ?k2 ?k3 ?_; (case k1 => tm_at "wk"); (case k2 => tm_at "zs"); (case k3 => omega))
  | with_reducible refine u_iA ?_
  | (with_reducible refine' f_repG ?k1 ?k2 ?k3 ?_; (case k1 => omega); (case k2 => omega); (case k3 => omega); intro z_ hz_)
  | (with_reducible refine' k_vA ?k0 ?k1 ?k2 ?_; (case k0 => with_reducible assumption); (case k1 => tm_at "dts"); (case k2 => tm_at "mono"))
  | (with_reducible refine' k_wA ?k0 ?k1 ?k2 ?k3 ?_; (case k0 => with_reducible assumption); (case k1 => tm_at "loc"); (case k2 => tm_at "dts"); (case k3 => tm_at "mono"))
  | (with_reducible refine' k_vlA ?k0 ?k1 ?k2 ?_; (case k0 => with_reducible assumption); (case k1 => tm_at "dts"); (case k2 => tm_at "mono"))
  | (with_reducible refine' k_wlA ?k0 ?k1 ?k2 ?k3 ?_; (case k0 => with_reducible assumption); (case k1 => tm_at "loc"); (case k2 => tm_at "dts"); (case k3 => tm_at "mono"))
  | (with_reducible refine ret_int ?_; intro H_ hs_)
  | (with_reducible refine ret_str ?_; intro H_ hs_)
  | (with_reducible refine ret_bl ?_; intro H_ hs_)
  | (with_reducible refine ret_non ?_; intro H_ hs_)
  | (with_reducible refine ret_any ?_; intro v_ Z_ H_ hz_ hs_)
  | (with_reducible refine retL ?_; intro p_ Z_ H_ hz_ hs_)
  | fail)
local macro_rules | `(tactic| tm_at "step") => `(tactic| first
  | with_reducible refine u_isNi ?_
  | with_reducible refine u_isNb ?_
  | with_reducible refine u_isNs ?_
  | with_reducible refine u_isi (.base (.str _)) kB_sb ?_
  | with_reducible refine u_isi (.base (.str _)) kB_ss ?_
  | with_reducible refine u_isi (.base (.str _)) kB_si ?_
  | with_reducible refine u_isi (.base (.bl _)) kB_bs ?_
  | with_reducible refine u_isi (.base (.bl _)) kB_bi ?_
  | with_reducible refine u_isi (.base (.int _)) kB_is ?_
  | (with_reducible refine' u_isi (ty_tup ?k1) kB_tt ?_; (case k1 => tm_at "dt"))
  | (with_reducible refine' u_isi (ty_tup ?k1) kB_tl ?_; (case k1 => tm_at "dt"))
  | (with_reducible refine' u_isi (ty_tup ?k1) kB_tb ?_; (case k1 => tm_at "dt"))
  | (with_reducible refine' u_isi (ty_tup ?k1) kB_ts ?_; (case k1 => tm_at "dt"))
  | (with_reducible refine' u_isi (ty_tup ?k1) kB_ti ?_; (case k1 => tm_at "dt"))
  | (with_reducible refine' u_isi (ty_lst ?k1) kB_lt ?_; (case k1 => tm_at "lr"))
  | (with_reducible refine' u_isi (ty_lst ?k1) kB_ll ?_; (case k1 => tm_at "lr"))
  | (with_reducible refine' u_isi (ty_lst ?k1) kB_lb ?_; (case k1 => tm_at "lr"))
  | (with_reducible refine' u_isi (ty_lst ?k1) kB_ls ?_; (case k1 => tm_at "lr"))
  | (with_reducible refine' u_isi (ty_lst ?k1) kB_li ?_; (case k1 => tm_at "lr"))
  | fail)
local macro_rules | `(tactic| tm_at "anyi") => `(tactic| (intro d hd; simp only [List.mem_cons, List.not_mem_nil, or_false] at hd; repeat' (rcases hd with rfl | hd); all_goals (first | exact ⟨_, rfl⟩ | (subst hd; exact ⟨_, rfl⟩))))
local macro_rules | `(tactic| tm_at "len") => `(tactic| (simp only [List.length_cons, List.length_nil, List.length_map, List.length_append]; omega))
local macro_rules | `(tactic| tm_at "step") => `(tactic| first
  | with_reducible refine u_dget2 ?_
  | with_reducible refine u_dput ?_
  | (with_reducible refine' h_dnewT ?k0 ?_; (case k0 => with_reducible assumption); intro p_ H_ hs_)
  | (with_reducible refine' h_dgA ?k0 ?k1 ?_; (case k0 => with_reducible assumption); (case k1 => tm_at "loc"))
  | fail)
local macro_rules | `(tactic| tm_at "finv") => `(tactic| (with_reducible refine' fin_v ?k1 ?k2 ?_; (case k1 => with_reducible assumption); (case k2 => tm_at "dt")))
local macro_rules | `(tactic| tm_at "finw") => `(tactic| (with_reducible refine' fin_w ?k1 ?k2 ?k3 ?_; (case k1 => with_reducible assumption); (case k2 => tm_at "loc"); (case k3 => tm_at "dt")))
local macro_rules | `(tactic| tm_at "finvl") => `(tactic| (with_reducible refine' fin_vl ?k1 ?k2 ?_; (case k1 => with_reducible assumption); (case k2 => tm_at "loc")))

local macro_rules | `(tactic| tm_at "step") => `(tactic| first | (with_reducible refine' k_draw ?k1 ?k2 ?_; (case k1 => tm_at "lp"); (case k2 => k_dflt omega); intro r_ H_ h0_ h1_ hk_ hp_) | fail)
local macro_rules | `(tactic| tm_at "step") => `(tactic| first | with_reducible refine k_int ?_ | fail)
local macro_rules | `(tactic| tm_at "step") => `(tactic| first | (with_reducible refine' k_pool ?k1 ?k2 ?_; (case k1 => tm_at "ls"); (case k2 => k_dflt (tm_at "side")); intro p_ H_ hn_ hk_ hp_) | fail)
local macro_rules | `(tactic| tm_at "step") => `(tactic| first | (with_reducible refine' h_draw ?k0 ?k1 ?k2 ?_; (case k0 => with_reducible assumption); (case k1 => tm_at "loc"); (case k2 => k_dflt omega); intro r_ H_ h0_ h1_ hs_) | fail)
local macro_rules | `(tactic| tm_at "ln") => `(tactic| first | with_reducible assumption | omega | (simp only [SX.S_len, Str.length_append]; omega) | fail)
local macro_rules | `(tactic| tm_at "lg") => `(tactic| first | with_reducible assumption | (with_reducible refine' bt_log ?k1; (case k1 => tm_at "bm")) | fail)
local macro_rules | `(tactic| tm_at "step") => `(tactic| first
  | with_reducible refine u_eqS ?_
  | with_reducible refine u_neS ?_
  | with_reducible refine bm_str ?_
  | with_reducible refine u_bm0 ?_
  | with_reducible refine u_find ?_
  | with_reducible refine u_asc ?_
  | with_reducible refine u_dgt ?_
  | with_reducible refine u_inS ?_
  | with_reducible refine u_niS ?_
  | with_reducible refine u_isNn ?_
  | with_reducible refine u_isNr ?_
  | (with_reducible refine' u_partS ?k1 ?k2 ?_; (case k1 => k_dflt rfl); (case k2 => tm_at "ln"); intro p_ H_ hn_ hk_ ho_)
  | (with_reducible refine' u_rmp ?k1 ?_; (case k1 => tm_at "ln"))
  | (with_reducible refine' u_addS ?k1 ?_; (case k1 => tm_at "ln"))
  | (with_reducible refine' u_lenS ?k1 ?_; (case k1 => tm_at "ln"))
  | (with_reducible refine' u_strI ?k1 ?_; (case k1 => tm_at "lg"))
  | (with_reducible refine' u_slX ?k1 ?_; (case k1 => tm_at "ln"))
  | with_reducible refine u_iS ?_
  | with_reducible refine u_iSq ?_
  | with_reducible refine u_join ?_
  | with_reducible refine js_cons ?_
  | with_reducible refine js_nil ?_
  | (with_reducible refine' jsQ ?k1 ?_; (case k1 => tm_at "ln"))
  | with_reducible refine u_fmt ?_
  | (with_reducible refine' fmtI ?k1 ?_; (case k1 => tm_at "lg"))
  | fail)

local macro_rules | `(tactic| tm_at "step") => `(tactic| first | (with_reducible refine' sp_is_name ?k1 ?_; (case k1 => tm_at "pre")) | fail)
local macro_rules | `(tactic| tm_at "step") => `(tactic| first | (with_reducible refine' sp_l_is_name ?k1 ?_; (case k1 => tm_at "pre")) | fail)
local macro_rules | `(tactic| tm_at "step") => `(tactic| first | (with_reducible refine sp_l_name ?_; intro z_ hr_) | fail)
local macro_rules | `(tactic| tm_at "step") => `(tactic| first | (with_reducible refine sp_l_names ?_; intro zs_ hr_) | fail)
local macro_rules | `(tactic| tm_at "step") => `(tactic| first | (with_reducible refine' sp_l_odd_name ?k1 ?_; (case k1 => tm_at "pre"); intro z_ hr_) | fail)
local macro_rules | `(tactic| tm_at "step") => `(tactic| first | (with_reducible refine sp_l_book ?_; intro s_ f_ cs_ hr_) | fail)
local macro_rules | `(tactic| tm_at "step") => `(tactic| first | (with_reducible refine' sp_l_more_options ?k1 ?_; (case k1 => tm_at "pre"); intro cs2_ hr_) | fail)
local macro_rules | `(tactic| tm_at "step") => `(tactic| first | (with_reducible refine' sp_l_bent ?k1 ?_; (case k1 => tm_at "pre"); intro s2_ f2_ cs2_ hr_) | fail)
local macro_rules | `(tactic| tm_at "step") => `(tactic| first | (with_reducible refine' sp_l_is_book ?k1 ?_; (case k1 => tm_at "pre")) | fail)
local macro_rules | `(tactic| tm_at "step") => `(tactic| first | (with_reducible refine' sp_l_keys ?k1 ?_; (case k1 => tm_at "pre"); intro ks_ hr_) | fail)
/-! PlainBook as an object -/
def pbF (s f : Int) (c o : V) : List (Str × V) := [("states", .int s), ("first", .int f), ("choices", c), ("_options", o)]
theorem lk_hit {k : Str} {v : V} {r : List (Str × V)} : List.lookup k ((k, v) :: r) = some v := by
  simp only [List.lookup, beq_self_eq_true]
theorem lk_miss {k g : Str} {v : V} {r : List (Str × V)} (h : k ≠ g) : List.lookup k ((g, v) :: r) = List.lookup k r := by
  have : (k == g) = false := by simpa using h
  simp only [List.lookup, this]
theorem ne12 : (Str.ofString "first") ≠ (Str.ofString "states") := by decide +kernel
theorem ne13 : (Str.ofString "choices") ≠ (Str.ofString "states") := by decide +kernel
theorem ne14 : (Str.ofString "_options") ≠ (Str.ofString "states") := by decide +kernel
theorem ne23 : (Str.ofString "choices") ≠ (Str.ofString "first") := by decide +kernel
theorem ne24 : (Str.ofString "_options") ≠ (Str.ofString "first") := by decide +kernel
theorem ne34 : (Str.ofString "_options") ≠ (Str.ofString "choices") := by decide +kernel
section
variable {s f : Int} {c o : V}
theorem pb_l1 : (pbF s f c o).lookup ("states" : Str) = some (.int s) := lk_hit
theorem pb_l2 : (pbF s f c o).lookup ("first" : Str) = some (.int f) := (lk_miss ne12).trans lk_hit
theorem pb_l3 : (pbF s f c o).lookup ("choices" : Str) = some c := (lk_miss ne13).trans ((lk_miss ne23).trans lk_hit)
theorem pb_l4 : (pbF s f c o).lookup ("_options" : Str) = some o := (lk_miss ne14).trans ((lk_miss ne24).trans ((lk_miss ne34).trans lk_hit))
theorem pb3_l3 : ([("states", .int s), ("first", .int f), ("choices", c)] : List (Str × V)).lookup ("choices" : Str) = some c := (lk_miss ne13).trans ((lk_miss ne23).trans lk_hit)
theorem pb_no {m : Str} (h1 : m ≠ "states") (h2 : m ≠ "first") (h3 : m ≠ "choices") (h4 : m ≠ "_options") : (pbF s f c o).lookup m = none := (lk_miss h1).trans ((lk_miss h2).trans ((lk_miss h3).trans ((lk_miss h4).trans rfl)))
end
theorem putF_miss {k g : Str} {v w : V} {r : List (Str × V)} (h : k ≠ g) : putF k v ((g, w) :: r) = (g, w) :: putF k v r := by
  show (if g = k then _ else (g, w) :: putF k v r) = _
  rw [if_neg (fun z => h z.symm)]
theorem put2 {s f : Int} : putF "first" (.int f) (putF "states" (.int s) []) = ([("states", .int s), ("first", .int f)] : List (Str × V)) := (putF_miss ne12).trans rfl
theorem put3 {s f : Int} {c : V} : putF "choices" c [("states", .int s), ("first", .int f)] = ([("states", .int s), ("first", .int f), ("choices", c)] : List (Str × V)) := by
  exact (putF_miss ne13).trans (congrArg _ ((putF_miss ne23).trans rfl))
theorem put4 {s f : Int} {c o : V} : putF "_options" o [("states", .int s), ("first", .int f), ("choices", c)] = pbF s f c o := by
  exact (putF_miss ne14).trans (congrArg _ ((putF_miss ne24).trans (congrArg _ ((putF_miss ne34).trans rfl))))
def PB (K : PySem.W.Frag) (C : Addr) (H : Hp) (p o : Addr) (s f : Int) (cs : List Ch) : Prop := ∃ dx c sd, H p = some (.ins C dx (pbF s f c (.ref o))) ∧ Dt K [] H c (.tuple (cs.map eCh)) ∧ DDt K [] H o sd ∧ GrpS cs sd
theorem ddt_im {K : PySem.W.Frag} {Z : List Addr} {H H' : Hp} {o : Addr} {s : List (List Key × PyData)} (h : DDt K Z H o s) (e : ∀ u, H o = some u → H' o = some u) (i : Im Z H H') : DDt K Z H' o s := by
  obtain ⟨r, h, d⟩ := h
  exact ⟨r, e _ h, d.im i⟩
theorem PB.kp0 {K : PySem.W.Frag} {C p o : Addr} {H H' : Hp} {s f : Int} {cs : List Ch} (k : Kp [] H H') (h : PB K C H p o s f cs) : PB K C H' p o s f cs := by
  obtain ⟨dx, c, sd, h1, h2, h3, h4⟩ := h
  exact ⟨dx, c, sd, k.get0 h1, h2.im k.im, ddt_im h3 (fun u e => k.get0 e) k.im, h4⟩
def spInitPB (K : PySem.W.Frag) (C CB : Addr) : Sp := fun vs H Q E => ∃ (p dx : Addr) (s f : Int) (Z : List Addr) (v : V) (cs : List Ch) (how : Int), vs = [.ref p, .int s, .int f, v] ∧ H p = some (.ins C dx []) ∧ p ∉ Z ∧ (∀ z ∈ Z, ∃ o, H z = some o) ∧ Dt K Z H v (hand cs how) ∧ Sml 60 cs ∧
  (isBook s f cs = false → ∀ H', Kp [p] H H' → E (.ref CB) none H') ∧ (isBook s f cs = true → ∀ H' o, Kp [p] H H' → H o = none → PB K C H' p o s f cs → Q .non H')
theorem k_pb {K : PySem.W.Frag} {C CB : Addr} {s f : Int} {v : V} {Z : List Addr} {cs : List Ch} {how : Int} {H : Hp} {Q : VK} {E : XK} (hz : ∀ z ∈ Z, ∃ o, H z = some o) (q : Dt K Z H v (hand cs how)) (pre : Sml 60 cs)
    (bad : isBook s f cs = false → ∀ H', Kp [] H H' → E (.ref CB) none H') (good : isBook s f cs = true → ∀ p o H', H p = none → H o = none → Kp [] H H' → PB K C H' p o s f cs → Q (.ref p) H') : NewI C (spInitPB K C CB) ([.int s, .int f, v] ++ []) H Q E := by
  intro x dx nx ndx ne
  have k1 : Kp [] H (upd (upd H dx (.own x)) x (.ins C dx [])) := Kp.trans (Kp.new ndx) (Kp.new (by rw [upd_ne ne.symm]; exact nx))
  refine ⟨x, dx, s, f, Z, v, cs, how, rfl, upd_same, fun z => ?_, fun z h => ?_, q.im k1.im, pre, fun b H' k => bad b _ (Kp.inst nx ndx k), fun g H' o k no pb => ⟨rfl, good g x o H' nx (k1.free no) (Kp.inst nx ndx k) pb⟩⟩
  · obtain ⟨u, e⟩ := hz x z
    rw [e] at nx; cases nx
  · obtain ⟨u, e⟩ := hz z h
    exact ⟨u, k1.get0 e⟩
def NcPB (P : Program) (w : World) (K : PySem.W.Frag) (mg : Str → Option Value) (base : Heap) (k : Nat) (C CB : Addr) : Prop :=
  ∃ f fd, Mk K C f ∧ FnOk P w K mg base (L2.CX P w) k f fd ["self", "states", "first", "choices"] (spInitPB K C CB) ∧ mg "PlainBook" = some (.ref C) ∧ Binds K fd ["self", "states", "first", "choices"] []
section
variable {X : Cx} {k : Nat} {C CB : Addr} {p pos : Pos} {e : Expr} {es : List Expr} {t : TA} {E : L2.St → XK}
theorem pe_pb {K : PySem.W.Frag} (F : NcPB X.prog X.w K X.mg X.base k C CB) (pass : ∀ σ, PassesAt (L2.CX X.prog X.w) X σ (E σ)) (room : Room (k + 1) X.A)
    (ha : PA X (e :: es) t) (hg : Gl X "PlainBook" := by rfl)
    (he : starEach (e :: es) X.env = (false, eval e X.env) :: starEach es X.env := by rfl) (hpl : (backTo pos (starEach es X.env)).any (·.1) = false := by rfl) (hK : X.K = K := by rfl) :
    PE X (.Call (.Name "PlainBook" p) (e :: es) [] pos) (tNew C (spInitPB K C CB) [] E t) := by
  subst hK
  obtain ⟨f, fd, mk, ok, g, b⟩ := F
  exact pe_new mk ok pass room g b .nil ha hg (by decide) he hpl
end
def spOpt (K : PySem.W.Frag) (C : Addr) : Sp := fun vs H Q _ => ∃ (p o : Addr) (s f : Int) (cs : List Ch) (n : Str) (i j : Int), vs = [.ref p, .str n, .int i, .int j] ∧ PB K C H p o s f cs ∧ Sml 60 cs ∧ ∀ q H', Kp [] H H' → H q = none → DL K [] H' q ((optsK cs [.inr n, .inl i, .inl j]).map ePr) → Q (.ref q) H'
def single (cs : List Ch) : Bool := cs.all fun c => decide ((cs.filter (fun d => sameK d c)).length = 1)
theorem upd_back {H : Hp} {a : Addr} {o : HO} (h : H a = some o) : upd H a o = H := by
  funext b
  by_cases e : b = a
  · rw [e, upd_same, h]
  · rw [upd_ne e]
theorem single_f {cs : List Ch} {k : List Key} (h : 1 < (optsK cs k).length) : single cs = false := by
  rw [← Bool.not_eq_true]
  intro z
  unfold single at z
  rw [List.all_eq_true] at z
  have : ∃ c ∈ cs, keyOf c = k := by
    cases e : cs.filter (fun c => decide (keyOf c = k)) with
    | nil => unfold optsK at h; rw [e] at h; simp at h
    | cons d r =>
      have : d ∈ cs.filter (fun c => decide (keyOf c = k)) := by rw [e]; exact List.mem_cons_self
      obtain ⟨h1, h2⟩ := List.mem_filter.mp this
      exact ⟨d, h1, by simpa using h2⟩
  obtain ⟨c, hc, rfl⟩ := this
  have q := z c hc
  rw [optsK_len] at h
  rw [decide_eq_true_eq] at q
  omega
theorem single_t {cs : List Ch} {sd : List (List Key × PyData)} (g : GrpS cs sd) (h : ∀ x ∈ sd, ∀ l, x.2 = .tuple l → l.length ≤ 1) : single cs = true := by
  unfold single
  rw [List.all_eq_true]
  intro c hc
  rw [decide_eq_true_eq, ← optsK_len]
  have m : (c.t, c.r) ∈ optsK cs (keyOf c) := optsK_mem.mpr hc
  have l1 := List.length_pos_of_mem m
  have v := g.v (keyOf c)
  rw [if_neg (fun z => by rw [z] at m; cases m)] at v
  have := h _ (valD_mem v) _ rfl
  rw [List.length_map] at this
  omega
def spDet (K : PySem.W.Frag) (C : Addr) : Sp := fun vs H Q _ => ∃ (p o : Addr) (s f : Int) (cs : List Ch), vs = [.ref p] ∧ PB K C H p o s f cs ∧ Sml 60 cs ∧ ∀ H', Kp [] H H' → Q (.bl (single cs)) H'
local macro_rules | `(tactic| tm_at "step") => `(tactic| first | (with_reducible refine u_sfld ?_) | fail)

section
variable {P : Program} {w : World} {K : PySem.W.Frag} {mg : Str → Option Value} {base : Heap} {CPlainBook COddsError CBadShare CBadText CBadBook CBadMove CBadProgram CBadPlan CUnfit CTooLarge CBadEdit : Addr}
theorem lc_hand {K : PySem.W.Frag} {B : Bs} {Z : List Addr} {H : Hp} {e : Ent} {v : V} {cs : List Ch} {how : Int} {R : VK} {p : Addr} {s f : Int} (hcl : cs.length ≤ 60) (hs : Hs K B Z H [e] [([v], [hand cs how])])
    (rest : ∀ D Z3 H9, Hs K B Z3 H9 [.dl K D (cs.map eCh) true, e] [([v], [hand cs how])] → R (.ref D) H9) :
    ItA K v (fun J H1 => LcQ J (gName 4) tYes (tCB (rTupOf K) (tCons (tVar 4) tNil)) [4] [some (.ref p), some (.int s), some (.int f), some v, none] R H1) H := by
  have lc : (cs.map eCh).length = cs.length := List.length_map _
  have lcL : (cs.map eChL).length = cs.length := List.length_map _
  by_cases h0 : how = 0
  · subst h0
    have hs : Hs K B Z H [e] [([v], [.list (cs.map eChL)])] := hs
    refine .inl (h_iL (ds := cs.map eChL) (by tm_at "lr") ?_)
    refine h_lcL (cs.map eChL) (fun i acc => acc = (cs.take i).map eCh) hs (fun D acc Z' H' h => by tm_at "lr") rfl (fun D i2 d x2 acc Z3 H9 hd2 hr hacc hz hs9 => ?_) (fun D acc Z3 H9 hr hacc hz hs9 => ?_)
    · obtain ⟨c, he, rfl⟩ := at_map hd2
      have hi2 : i2 < 100000 := by have := (List.getElem?_eq_some_iff.mp he).1; omega
      tm_at "run"
      show _ = _
      rw [_root_.Fr.take_more he, map_snoc, hr]
    · rw [lcL, List.take_length] at hr
      rw [hr] at hs9
      exact rest _ _ _ hs9
  by_cases h1 : how = 1
  · subst h1
    have hs : Hs K B Z H [e] [([v], [.list (cs.map eCh)])] := hs
    refine .inl (h_iL (ds := cs.map eCh) (by tm_at "lr") ?_)
    refine h_lcL (cs.map eCh) (fun i acc => acc = (cs.take i).map eCh) hs (fun D acc Z' H' h => by tm_at "lr") rfl (fun D i2 d x2 acc Z3 H9 hd2 hr hacc hz hs9 => ?_) (fun D acc Z3 H9 hr hacc hz hs9 => ?_)
    · obtain ⟨c, he, rfl⟩ := at_map hd2
      have hi2 : i2 < 100000 := by have := (List.getElem?_eq_some_iff.mp he).1; omega
      tm_at "run"
      show _ = _
      rw [_root_.Fr.take_more he, map_snoc, hr]
    · rw [lc, List.take_length] at hr
      rw [hr] at hs9
      exact rest _ _ _ hs9
  by_cases h2 : how = 2
  · subst h2
    have hs : Hs K B Z H [e] [([v], [.tuple (cs.map eChL)])] := hs
    refine .inr (h_iT (ds := cs.map eChL) (by tm_at "dt") ?_)
    refine h_lcT (cs.map eChL) (fun i acc => acc = (cs.take i).map eCh) hs (fun D acc Z' H' h => by tm_at "dt") rfl (fun D i2 d x2 acc Z3 H9 hd2 hr hacc hz hs9 => ?_) (fun D acc Z3 H9 hr hacc hz hs9 => ?_)
    · obtain ⟨c, he, rfl⟩ := at_map hd2
      have hi2 : i2 < 100000 := by have := (List.getElem?_eq_some_iff.mp he).1; omega
      tm_at "run"
      show _ = _
      rw [_root_.Fr.take_more he, map_snoc, hr]
    · rw [lcL, List.take_length] at hr
      rw [hr] at hs9
      exact rest _ _ _ hs9
  · have eh : hand cs how = .tuple (cs.map eCh) := by unfold hand; rw [if_neg h0, if_neg h1, if_neg h2]
    rw [eh] at hs rest
    refine .inr (h_iT (ds := cs.map eCh) (by tm_at "dt") ?_)
    refine h_lcT (cs.map eCh) (fun i acc => acc = (cs.take i).map eCh) hs (fun D acc Z' H' h => by tm_at "dt") rfl (fun D i2 d x2 acc Z3 H9 hd2 hr hacc hz hs9 => ?_) (fun D acc Z3 H9 hr hacc hz hs9 => ?_)
    · obtain ⟨c, he, rfl⟩ := at_map hd2
      have hi2 : i2 < 100000 := by have := (List.getElem?_eq_some_iff.mp he).1; omega
      tm_at "run"
      show _ = _
      rw [_root_.Fr.take_more he, map_snoc, hr]
    · rw [lc, List.take_length] at hr
      rw [hr] at hs9
      exact rest _ _ _ hs9
theorem ok_PlainBook (T : Txt K mg CPlainBook COddsError CBadShare CBadText CBadBook CBadMove CBadProgram CBadPlan CUnfit CTooLarge CBadEdit) : NcPB P w K mg base 3 CPlainBook CBadBook := by
  obtain ⟨fi, fd, mk, F⟩ := T.d_init
  refine ⟨fi, fd, mk, ?_, T.pb.g, F.binds (fun _ _ _ _ _ _ us hl => match us, hl with | [_, _, _, _], _ => rfl)⟩
  refine F.okX sc_PlainBook___init__ (fun vs H Q E h => by obtain ⟨p, dx, s, f, Z, v, cs, how, rfl, _⟩ := h; rfl) fun cdv A outer s0 H vs Q E hr h => ⟨_, (pss_cons (ps_fld (pv 0) (pv 1) rfl)
 (pss_cons (ps_fld (pv 0) (pv 2) rfl)
 (pss_cons (ps_fld (pv 0) (pe_callTy (tupK K) (by rfl) T.n_tuple b_tuple (pa_cons (pe_lc (own := [("choice", 4)]) (g := (gName 4)) (tt := tYes) rfl sc_PlainBook___init__.nd (piAK K (pv 3)) (blkOk_by (own := [("choice", 4)]) (N := ["self", "states", "first", "choices", "choice"]) (sc := defScope s_PlainBook___init__) (by decide +kernel)) (fun _ _ _ _ _ => (pg_name (i := 4) sc_PlainBook___init__.nd rfl (Or.inl rfl))) (fun _ _ _ _ _ => pts_nil) (fun _ _ _ _ _ => (pe_callTy (tupK K) (by rfl) T.n_tuple b_tuple (pa_cons (pv 4) pa_nil)))) pa_nil)) rfl)
 (pss_cons (ps_if (pt_not (pt_chain op_le op_le pe_int (pv 1) (C8.pe_gc (v := .int 600) rfl T.g_MOST_STATES)))
 (pss_one (ps_raise rfl (takes_of rfl rfl rfl rfl) (pmk_own PySem.F.excBase_ValueError T.x_BadBook T.e_BadBook.g T.e_BadBook.k (raises_own T.e_BadBook.b T.e_BadBook.t) rfl)))
 pss_nil)
 (pss_cons (ps_if (pt_not (pt_chain op_le op_lt pe_int (pv 2) (pv 1)))
 (pss_one (ps_raise rfl (takes_of rfl rfl rfl rfl) (pmk_own PySem.F.excBase_ValueError T.x_BadBook T.e_BadBook.g T.e_BadBook.k (raises_own T.e_BadBook.b T.e_BadBook.t) rfl)))
 pss_nil)
 (pss_cons (ps_for (passes_of rfl) rfl (piTK K (fldK K (pv 0) rfl)) (pg_name (i := 4) sc_PlainBook___init__.nd rfl (Or.inl rfl))
 (pss_one (ps_expr (pe_fc (ok_check_choice T) (passes_call (takes_of rfl rfl rfl rfl) (fun _ _ _ _ h => h)) (hr.mono (by omega)) (pa_cons (pv 4) (pa_cons (pv 1) pa_nil))))))
 (pss_one (ps_fld (pv 0) (pe_fc (ok_grouped_options T) (passes_call (takes_of rfl rfl rfl rfl) (fun _ _ _ _ h => h)) (hr.mono (by omega)) (pa_cons (fldK K (pv 0) rfl) pa_nil)) rfl)))))))), ?_⟩
  obtain ⟨p, dx, s, f, Z, v, cs, how, rfl, hp, pz, zl, hv, pre, bad, good⟩ := h
  have hs : Hs K ⟨H, [p], Z⟩ Z H [.obj p (.ins CPlainBook dx []) true] [([v], [hand cs how])] := ((Hs.start (fun b hb => by rw [one_mem hb]; exact ⟨_, hp⟩) zl).ent (.obj p (.ins CPlainBook dx []) true) hp (fun _ z => by cases z) (fun b hb => by rw [one_mem hb]; exact pz) (fun _ b hb => .inl hb)).fact1 hv
  have hcl := pre.1
  have lc : (cs.map eCh).length = cs.length := List.length_map _
  tm_at "go"
  refine h_sf T.pb.cl T.pb.n1 hs .here (by decide) fun H1 hs1 => ?_
  tm_at "run"
  refine h_sf T.pb.cl T.pb.n2 hs1 .here (by show 1 < 1000; decide) fun H2 hs2 => ?_
  rw [put2] at hs2
  tm_at "run"
  refine lc_hand hcl hs2 fun D Z3 H9 hs3 => ?_
  tm_at "run"
  rename_i pT HT hsT
  refine h_sf T.pb.cl T.pb.n3 hsT (.there .here) (by show 2 < 1000; decide) fun H4 hs4 => ?_
  rw [put3] at hs4
  have hs5 : Hs K ⟨H, [p], Z⟩ Z3 H4 [.obj p (.ins CPlainBook dx [("states", .int s), ("first", .int f), ("choices", .ref pT)]) true] [([.ref pT], [.tuple (cs.map eCh)])] := by tm_at "wk"
  clear hs hs1 hs2 hs3 hsT hs4
  have nb0 : ¬ (1 ≤ s ∧ s ≤ 600 ∧ 0 ≤ f ∧ f < s) → isBook s f cs = false := fun h => by
    rw [← Bool.not_eq_true, isBook_iff]; exact fun z => h z.1
  have nb1 : ∀ c ∈ cs, okCh s c = false → isBook s f cs = false := fun c hc h => by
    rw [← Bool.not_eq_true, isBook_iff]; exact fun z => by have := (z.2 c hc).1; rw [h] at this; cases this
  tm_at "run"
  · refine h_fld T.pb.cl T.pb.n3 hs5 .here pb3_l3 ?_
    refine h_iT (ds := cs.map eCh) (by tm_at "dt") ?_
    refine l_dt (cs.map eCh) (fun i σ H' => ∃ u : Option V, σ = [some (.ref p), some (.int s), some (.int f), some v, u] ∧ (∀ c ∈ cs.take i, okCh s c = true) ∧ Hs K ⟨H, [p], Z⟩ Z3 H' [.obj p (.ins CPlainBook dx [("states", .int s), ("first", .int f), ("choices", .ref pT)]) true] [([.ref pT], [.tuple (cs.map eCh)])]) ?_ ?_ ?_ ?_
    · exact ⟨none, rfl, fun c hc => (by simp at hc), hs5⟩
    · rintro i σ H' hi ⟨u, rfl, _, hs6⟩
      exact ⟨Z3, by tm_at "dt"⟩
    · rintro i d x σ H' hd hx ⟨u, rfl, all, hs6⟩
      obtain ⟨c, hc, rfl⟩ := at_map hd
      have hcm : c ∈ cs := List.mem_of_getElem? hc
      have hs7 := hs6.fact1 (hx Z3 (by tm_at "dt"))
      tm_at "run"
      refine ⟨Z3, c, s, x, rfl, hs7.zl, by tm_at "dt", pre.2 c hcm, fun e H' k9 => bad (nb1 c hcm e) _ (hs7.same k9).kp, fun e H' k9 => ?_⟩
      have hs8 := hs6.same k9
      tm_at "run"
      refine ⟨_, rfl, fun c2 hc2 => ?_, hs8⟩
      rw [_root_.Fr.take_more hc] at hc2
      rcases List.mem_append.mp hc2 with y | y
      · exact all c2 y
      · rw [List.mem_singleton.mp y]; exact e
    · rintro σ H' ⟨u, rfl, all, hs6⟩
      rw [lc, List.take_length] at all
      tm_at "run"
      refine h_fld T.pb.cl T.pb.n3 hs6 .here pb3_l3 ?_
      tm_at "run"
      refine ⟨Z3, cs, .ref pT, rfl, hs6.zl, by tm_at "dt", pre, fun e H' k9 => bad ?_ _ (hs6.same k9).kp, fun e o H' sd k9 no dd gs => ?_⟩
      · rw [← Bool.not_eq_true]
        unfold isBook
        rw [e, Bool.and_false, Bool.and_false]
        exact Bool.false_ne_true
      have hs7 := hs6.new k9 (.dd K o sd true) (fun a ha => by rw [one_mem ha]; exact no) (by obtain ⟨r, h1, h2⟩ := dd; exact ⟨r, h1, h2.zs (fun _ z => by cases z)⟩)
      tm_at "run"
      refine h_sf T.pb.cl T.pb.n4 hs7 (.there .here) (by show 3 < 1000; decide) fun H8 hs8 => ?_
      rw [put4] at hs8
      have op : o ∉ [p] := fun z => by
        rw [one_mem z, hs6.obj .here] at no
        cases no
      have gb : isBook s f cs = true := by
        unfold isBook headOk
        rw [e, List.all_eq_true.mpr all]
        simp
        omega
      obtain ⟨r, h1, h2⟩ := (hs8.get .here : DDt K Z3 H8 o sd)
      refine good gb H8 o hs8.kp (Hs_newD hs8 .here op) ⟨dx, .ref pT, sd, hs8.obj (.there .here), dt_noZ _ _ (noLs_map eCh (fun _ => rfl) cs) (by tm_at "dt"), ⟨r, h1, dr_noZ h2 (grp_noL gs)⟩, gs⟩
  all_goals exact bad (nb0 (by omega)) _ hs5.kp
theorem ok_PlainBook_options (T : Txt K mg CPlainBook COddsError CBadShare CBadText CBadBook CBadMove CBadProgram CBadPlan CUnfit CTooLarge CBadEdit) : Mc P w K mg base CX0 1 CPlainBook "options" ["self", "deed", "state", "argument"] (spOpt K CPlainBook) := by
  refine mc_of T.d_PlainBook_options sc_PlainBook_options (fun vs H Q E h => by obtain ⟨p, o, s, f, cs, n, i, j, rfl, pb, pre, k⟩ := h; rfl) (fun _ _ _ _ _ _ us hl => match us, hl with | [_, _, _, _], _ => rfl) fun f cdv A outer s H vs Q E hr h => ⟨_, (pss_one (ps_ret (pe_callTy (listK K) (by rfl) T.n_list b_list (pa_cons (pe_dget2 (hu_of hr) (fldK K (pv 0) rfl) (pe_tup (pa_cons (pv 1) (pa_cons (pv 2) (pa_cons (pv 3) pa_nil)))) (pe_tup pa_nil) ⟨rfl, rfl, rfl, rfl⟩) pa_nil)))), ?_⟩
  obtain ⟨p, o, s, f, cs, n, i, j, rfl, pb, pre, k⟩ := h
  obtain ⟨dx, c, sd, hp, hc, hd, gs⟩ := pb
  have hs : Hs K ⟨H, [], []⟩ [] H [.dd K o sd false] [] := (Hs.start (fun _ z => by cases z) (fun _ z => by cases z)).ent (.dd K o sd false) hd (fun _ z => by cases z) (fun _ _ z => by cases z) (fun z => by cases z)
  tm_at "go"
  refine fld_of T.pb.cl T.pb.n4 hp pb_l4 ?_
  refine h_dgA hs .here ?_
  tm_at "run"
  rename_i hq9
  refine h_dgB (s := sd) (dz := .tuple []) (w := false) [.inr n, .inl i, .inl j] hq9 .here (show Dt K [] _ _ (.tuple [.str n, .int i, .int j]) from by tm_at "dt") (by tm_at "dt") fun y hy => ?_
  rw [gs.get] at hy
  tm_at "run"
  rename_i hq8
  exact k _ _ hq8.kp (hq8.newP .here (by simp)) (hq8.dl .here)
theorem ok_PlainBook_deterministic (T : Txt K mg CPlainBook COddsError CBadShare CBadText CBadBook CBadMove CBadProgram CBadPlan CUnfit CTooLarge CBadEdit) : NcPr P w K mg base 1 CPlainBook "deterministic" (spDet K CPlainBook) := by
  obtain ⟨pp, g, fd, hpp, F⟩ := T.d_det
  refine ⟨pp, g, fd, hpp, ?_, F.binds (fun _ _ _ _ _ _ us hl => match us, hl with | [_], _ => rfl)⟩
  refine F.ok sc_PlainBook_deterministic (fun vs H Q E h => by obtain ⟨p, o, s, f, cs, rfl, _⟩ := h; rfl) fun cdv A outer s0 H vs Q E hr h => ⟨_, (pss_cons (ps_lock (ps_for PassesOwn.never rfl (pi_valuesT (fldK K (pv 0) rfl)) (pg_name (i := 1) sc_PlainBook_deterministic.nd rfl (Or.inl rfl))
 (pss_one (ps_if (pt_cmpR op_gt (pe_callB (lenK K) (by rfl) T.n_len b_len (pa_cons (pv 1) pa_nil)) pe_int (nomark _))
 (pss_one (ps_ret pe_bl))
 pss_nil))))
 (pss_one (ps_ret pe_bl))), ?_⟩
  obtain ⟨p, o, s, f, cs, rfl, ⟨dx, c, sd, hp, hc, ⟨r, hr2, dr⟩, gs⟩, pre, k⟩ := h
  have po : p ≠ o := fun z => by rw [← z, hp] at hr2; cases hr2
  have k0 : ∀ u, Kp [] H (upd (upd H o u) o (.dT r)) := fun u => by rw [upd_upd, upd_back hr2]; exact .refl
  refine ⟨o, .dT r, hr2, trivial, fun od => ?_⟩
  have im : Im [] H (upd H o (.frz od (.dT r))) := Kp.mut.imN (fun a ha zs => by rw [one_mem ha, hr2]; intro z; cases z) fun a ha => by simp
  have dr1 := dr.im im
  have hp1 : upd H o (.frz od (.dT r)) p = some (.ins CPlainBook dx (pbF s f c (.ref o))) := by rw [upd_ne po]; exact hp
  have ho1 : upd H o (.frz od (.dT r)) o = some (.frz od (.dT r)) := upd_same
  have rl := dr.length
  have gl := gs.l
  have hcl := pre.1
  have kk : ∀ b, b = single cs → Q (.bl b) (upd (upd H o (.frz od (.dT r))) o (.dT r)) := fun b e => by rw [e]; exact k _ (k0 _)
  generalize upd H o (.frz od (.dT r)) = H1 at hp1 ho1 dr1 kk
  refine u_for ?_
  unfold iValsT
  tm_at "run"
  refine fld_of T.pb.cl T.pb.n4 hp1 pb_l4 ⟨o, od, r, rfl, ho1, ?_⟩
  refine ⟨fun i m σ H' => m = r.length - i ∧ i ≤ r.length ∧ (∃ u : Option V, σ = [some (.ref p), u]) ∧ H' = H1 ∧ ∀ x ∈ sd.take i, ∀ l, x.2 = .tuple l → l.length ≤ 1, ⟨_, rfl, Nat.zero_le _, ⟨none, rfl⟩, rfl, fun x hx => by simp at hx⟩, ?_⟩
  rintro i m σ H' ⟨rfl, hi, ⟨u, rfl⟩, rfl, all⟩
  by_cases hlt : i < r.length
  · obtain ⟨⟨kx, vx⟩, ex⟩ : ∃ d, r[i]? = some d := ⟨_, List.getElem?_eq_getElem hlt⟩
    obtain ⟨d, ed, qd⟩ := dr1.at' ex
    have md : (kx, d) ∈ sd := List.mem_of_getElem? ed
    obtain ⟨e1, e2⟩ := gs.m _ md
    have e1 : d = .tuple ((optsK cs kx).map ePr) := e1
    subst e1
    have olen : (optsK cs kx).length ≤ cs.length := by unfold optsK; rw [List.length_map]; exact List.length_filter_le _ _
    have ml : ((optsK cs kx).map ePr).length = (optsK cs kx).length := List.length_map _
    refine .inr ⟨⟨ho1, hlt⟩, _, fun σ' H'' p' => ⟨r.length - (i + 1), by omega, p'⟩, ?_⟩
    rintro x' H'' ⟨e', k', hk'⟩
    subst e'
    rw [ex] at hk'
    have ev : vx = x' := congrArg Prod.snd (Option.some.inj hk')
    subst ev
    have hs : Hs K ⟨H'', [], []⟩ [] H'' [] [([vx], [.tuple ((optsK cs kx).map ePr)])] := (Hs.start (fun _ z => by cases z) (fun _ z => by cases z)).fact1 qd
    tm_at "run"
    · exact ⟨ho1, kk false (single_f (k := kx) (by omega)).symm⟩
    · refine ⟨rfl, by omega, ⟨_, rfl⟩, rfl, fun x hx l hl => ?_⟩
      rw [_root_.Fr.take_more ed] at hx
      rcases List.mem_append.mp hx with y | y
      · exact all x y l hl
      · rw [List.mem_singleton.mp y] at hl
        have hl : PyData.tuple ((optsK cs kx).map ePr) = .tuple l := hl
        have hl := PyData.tuple.inj hl
        have h9 : ¬ (1 : Int) < (((optsK cs kx).map ePr).length : Int) := by assumption
        have h8 : ((optsK cs kx).map ePr).length ≤ 1 := by omega
        rw [hl] at h8
        exact h8
  · refine .inl ⟨⟨ho1, by omega⟩, ?_⟩
    rw [List.take_of_length_le (by omega)] at all
    refine ⟨ho1, ?_⟩
    tm_at "run"
    exact kk true (single_t gs all).symm

end
end My
set_option Elab.async false
set_option linter.all false
set_option autoImplicit false
set_option maxRecDepth 100000
set_option maxHeartbeats 4000000
namespace My
open PySem PySem.Spec PyProof.Rows L2 U
local macro_rules | `(tactic| tm_at "step") => `(tactic| first | (with_reducible refine br_b ?_ ?_ <;> intro hb_) | fail)

/-! my own steps: rows of tactics, tried from above -/
local macro_rules | `(tactic| tm_at "lk") => `(tactic| first | with_reducible assumption | (with_reducible refine' Kp.get0 ?k1 ?k2; (case k1 => with_reducible assumption); (case k2 => tm_at "lk")) | (with_reducible refine' Kp.get1 ?k1 ?k3 ?k2; (case k1 => with_reducible assumption); (case k3 => tm_at "ne"); (case k2 => tm_at "lk")) | fail)
local macro_rules | `(tactic| tm_at "lp") => `(tactic| first | with_reducible assumption | (with_reducible refine' Pool.kp0 ?k1 ?k2; (case k1 => with_reducible assumption); (case k2 => tm_at "lp")) | (with_reducible refine' Pool.kp1 ?k1 ?k3 ?k2; (case k1 => with_reducible assumption); (case k3 => tm_at "ne"); (case k2 => tm_at "lp")) | fail)
local macro_rules | `(tactic| tm_at "ls") => `(tactic| first | with_reducible assumption | (with_reducible refine' Scr.kp0 ?k1 ?k2; (case k1 => with_reducible assumption); (case k2 => tm_at "ls")) | (with_reducible refine' Scr.kp1 ?k1 ?k3 ?k4 ?k2; (case k1 => with_reducible assumption); (case k3 => with_reducible assumption); (case k4 => tm_at "ls"); (case k2 => tm_at "ls")) | fail)
local macro_rules | `(tactic| tm_at "ne") => `(tactic| first | with_reducible assumption | (with_reducible refine' Ne.symm ?k1; with_reducible assumption) | (with_reducible refine' ne_new ?k1 ?k2; (case k1 => with_reducible assumption); (case k2 => tm_at "lk")) | (with_reducible refine' ne_new' ?k1 ?k2; (case k1 => with_reducible assumption); (case k2 => tm_at "lk")) | (with_reducible refine' Pool.ne ?k1 ?k2; (case k1 => with_reducible assumption); (case k2 => tm_at "lp")) | (with_reducible refine' Ne.symm (Pool.ne ?k1 ?k2); (case k1 => with_reducible assumption); (case k2 => tm_at "lp")) | fail)
local macro_rules | `(tactic| tm_at "kc") => `(tactic| first | with_reducible assumption | with_reducible exact Kp.refl | (with_reducible refine' Kp.trans ?k1 (Kp.of0 ?k2); (case k2 => with_reducible assumption); (case k1 => tm_at "kc")) | (with_reducible refine' Kp.trans ?k1 ?k2; (case k2 => with_reducible assumption); (case k1 => tm_at "kc")) | (with_reducible refine' Kp.low' ?k1 ?k2 ?k3 ?k4; (case k2 => with_reducible assumption); (case k3 => with_reducible assumption); (case k1 => tm_at "kc"); (case k4 => tm_at "kc")) | fail)
local macro_rules | `(tactic| tm_at "sq") => `(tactic| first | (with_reducible refine' sql ?k9; (case k9 => tm_at "lk")) | (with_reducible refine' Scr.sq ?k9; (case k9 => tm_at "ls")) | fail)
local macro_rules | `(tactic| tm_at "sqt") => `(tactic| first | (with_reducible refine' sqt ?k9; (case k9 => tm_at "lk")) | fail)
local macro_rules | `(tactic| tm_at "bt") => `(tactic| first | with_reducible assumption | (with_reducible refine' Bt.mul ?k1 ?k2; (case k1 => tm_at "bt"); (case k2 => tm_at "bt")) | (with_reducible refine' Bt.addM ?k1 ?k2; (case k1 => tm_at "bt"); (case k2 => tm_at "bt")) | (with_reducible refine' Bt.subM ?k1 ?k2; (case k1 => tm_at "bt"); (case k2 => tm_at "bt")) | (with_reducible refine' Bt.neg ?k1; (case k1 => tm_at "bt")) | fail)
local macro_rules | `(tactic| tm_at "bm") => `(tactic| first | with_reducible assumption | (with_reducible refine' Bt.mono ?k1 ?k2; (case k1 => with_reducible assumption); (case k2 => k_dflt decide)) | fail)
local macro_rules | `(tactic| tm_at "side") => `(tactic| first | with_reducible assumption | (with_reducible refine' Bt.cmul ?k1 ?k2 ?k3; (case k1 => tm_at "bt"); (case k2 => tm_at "bt"); (case k3 => k_dflt decide)) | (with_reducible refine cmul_of ?k1; (case k1 => omega)) | (with_reducible refine cpow_of ?k1; (case k1 => omega)) | (with_reducible refine cdivw_of ?k1; (case k1 => omega)) | (with_reducible refine cdivw_big ?k1; (case k1 => omega)) | (with_reducible refine cmulx_of ?k1; (case k1 => omega)) | omega | fail)
local macro_rules | `(tactic| tm_at "step") => `(tactic| first
  | with_reducible refine u_op ?_
  | (with_reducible refine' u_var ?k1 ?_; (case k1 => k_dflt rfl))
  | with_reducible refine u_c ?_
  | with_reducible refine u_I0 ?_
  | with_reducible refine u_seq ?_
  | with_reducible refine u_asg ?_
  | with_reducible refine g_name ?_
  | with_reducible refine u_cb ?_
  | with_reducible refine u_cons ?_
  | with_reducible refine u_nil ?_
  | (with_reducible refine' u_pow ?k1 ?k2 ?_; (case k1 => k_dflt (tm_at "side")); (case k2 => (conv => lhs; simp only [Int.reduceToNat, Int.reducePow]) <;> rfl))
  | (with_reducible refine' u_I ?k1 ?_; (case k1 => k_dflt (tm_at "side")))
  | with_reducible refine u_int1 ?_
  | with_reducible refine u_intB ?_
  | with_reducible refine u_if ?_
  | with_reducible refine u_test ?_
  | with_reducible refine u_tb ?_
  | with_reducible refine u_tB ?_
  | with_reducible refine u_eqI ?_
  | with_reducible refine u_neI ?_
  | with_reducible refine u_eqB ?_
  | with_reducible refine u_and ?_
  | with_reducible refine u_or ?_
  | with_reducible refine u_not ?_
  | with_reducible refine u_andV ?_
  | with_reducible refine u_orV ?_
  | with_reducible refine u_notV ?_
  | with_reducible refine br_t ?_
  | with_reducible refine br_f ?_
  | with_reducible refine br_nt ?_
  | with_reducible refine br_nf ?_
  | with_reducible refine br_n ?_
  | with_reducible refine u_ret ?_
  | with_reducible refine u_next ?_
  | with_reducible refine u_drop ?_
  | with_reducible refine u_un ?_
  | with_reducible refine u_U ?_
  | with_reducible refine u_call ?_
  | with_reducible refine u_fldN ?_
  | with_reducible refine g_sub ?_
  | with_reducible refine g_cons ?_
  | with_reducible refine g_nil ?_
  | with_reducible refine u_tpar ?_
  | (with_reducible refine u_absL ?_; intro m_ h1_ h2_)
  | (with_reducible refine u_maxL ?_; intro m_ h1_ h2_ h3_)
  | (with_reducible refine u_minL ?_; intro m_ h1_ h2_ h3_)
  | with_reducible refine u_gcd ?_
  | with_reducible refine u_isi_ii ?_
  | with_reducible refine u_isi_ib ?_
  | with_reducible refine u_isi_bb ?_
  | with_reducible refine u_tupN ?_
  | with_reducible refine u_lstN ?_
  | (with_reducible refine' u_ixL ?k1 ?k2 ?_; (case k1 => tm_at "sq"); (case k2 => first | with_reducible assumption | k_dflt rfl))
  | (with_reducible refine' u_ixT ?k1 ?k2 ?_; (case k1 => tm_at "sqt"); (case k2 => k_dflt rfl))
  | (with_reducible refine' g_tup ?k1 ?k2 ?_; (case k1 => tm_at "sqt"); (case k2 => k_dflt rfl))
  | (with_reducible refine' u_lenL ?k1 ?_; (case k1 => tm_at "sq"))
  | (with_reducible refine' u_lenT ?k1 ?_; (case k1 => tm_at "sqt"))
  | with_reducible refine u_for ?_
  | with_reducible refine u_iL ?_
  | with_reducible refine u_iT ?_
  | with_reducible refine u_r1 ?_
  | with_reducible refine u_r2 ?_
  | (with_reducible refine' u_iLq ?k1 ?_; (case k1 => tm_at "sq"))
  | (with_reducible refine' u_iTq ?k1 ?_; (case k1 => tm_at "sqt"))
  | (with_reducible refine' u_r1q ?k1 ?_; (case k1 => (constructor <;> omega)))
  | (with_reducible refine' u_r2q ?k1 ?_; (case k1 => (refine ⟨?_, ?_, ?_, ?_⟩ <;> omega)))
  | with_reducible refine u_lc ?_
  | with_reducible refine u_yes ?_
  | (with_reducible refine endQ ?k1 ?_; (case k1 => k_dflt rfl))
  | with_reducible refine u_meth ?_
  | with_reducible refine u_callS ?_
  | with_reducible refine u_bm ?_
  | (with_reducible refine' bm_list ?k1 ?_; (case k1 => tm_at "lk"))
  | (with_reducible refine' u_append ?k1 ?k2 ?_; (case k1 => tm_at "lk"); (case k2 => omega); intro H_ hk_ ho_)
  | (with_reducible refine' appE ?k1 ?k2 ?_; (case k1 => tm_at "lk"); (case k2 => omega); intro H_ hk_ ho_)
  | with_reducible refine u_sl ?_
  | with_reducible refine u_noPart ?_
  | with_reducible refine u_part ?_
  | with_reducible refine u_intq ?_
  | (with_reducible refine' u_slL ?k1 ?_; (case k1 => tm_at "sq"); intro p_ H_ hn_ hk_ ho_)
  | (with_reducible refine' n_tup ?k1 ?_; (case k1 => k_dflt (exact Nat.le_of_ble_eq_true rfl)); intro p_ H_ hn_ hk_ ho_)
  | (with_reducible refine' n_lst ?k1 ?_; (case k1 => k_dflt (exact Nat.le_of_ble_eq_true rfl)); intro p_ H_ hn_ hk_ ho_)
  | (with_reducible refine' s_list ?k1 ?k2 ?_; (case k1 => tm_at "lk"); (case k2 => k_dflt rfl); intro H_ hk_ ho_)
  | (with_reducible refine br_d ?_ ?_ <;> intro hc_) | fail)
local macro_rules | `(tactic| tm_at "run") => `(tactic| repeat' tm_at "step")
local macro_rules | `(tactic| tm_at "go") => `(tactic| ((try dsimp only [cxOf, Cx.nox, Cx.wish]); tm_at "run"))

/-! steps over Hs -/
local macro_rules | `(tactic| tm_at "mem") => `(tactic| first | with_reducible exact List.mem_cons_self | (with_reducible refine' List.mem_cons_of_mem _ ?k1; (case k1 => tm_at "mem")) | fail)
local macro_rules | `(tactic| tm_at "loc") => `(tactic| first | with_reducible exact Loc.here | (with_reducible refine' Loc.there ?k1; (case k1 => tm_at "loc")) | fail)
local macro_rules | `(tactic| tm_at "rem") => `(tactic| first | with_reducible exact Rem.here | (with_reducible refine' Rem.there ?k1; (case k1 => tm_at "rem")) | fail)
local macro_rules | `(tactic| tm_at "suf") => `(tactic| first | with_reducible exact Suf.refl | (with_reducible refine' Suf.keep ?k1; (case k1 => tm_at "suf")) | (with_reducible refine' Suf.cons ?k1; (case k1 => tm_at "suf")) | fail)
local macro_rules | `(tactic| tm_at "wk") => `(tactic| first | with_reducible assumption | (with_reducible refine' Hs.wk ?k1 ?k2 ?k3; (case k1 => with_reducible assumption); (case k2 => tm_at "suf"); (case k3 => tm_at "suf")) | fail)
local macro_rules | `(tactic| tm_at "dt") => `(tactic| first | with_reducible exact Dt.int _ | with_reducible exact Dt.str _ | with_reducible exact Dt.bl _ | with_reducible exact Dt.non | with_reducible assumption | (with_reducible refine' Hs.dt ?k1 ?k2; (case k1 => with_reducible assumption); (case k2 => tm_at "mem")) | (with_reducible refine' Hs.dtup ?k1 ?k2 ?k3; (case k1 => with_reducible assumption); (case k2 => tm_at "loc"); (case k3 => tm_at "dts")) | fail)
local macro_rules | `(tactic| tm_at "dts") => `(tactic| first | with_reducible exact Dts.nil | (with_reducible refine' Dts.cons ?k1 ?k2; (case k1 => tm_at "dt"); (case k2 => tm_at "dts")) | with_reducible assumption | (with_reducible refine' Hs.dts ?k1 ?k2; (case k1 => with_reducible assumption); (case k2 => tm_at "mem")) | fail)
local macro_rules | `(tactic| tm_at "da") => `(tactic| first | (with_reducible refine' Da.imm ?k1; (case k1 => tm_at "dt")) | (with_reducible refine' Hs.dlst ?k1 ?k2; (case k1 => with_reducible assumption); (case k2 => tm_at "loc")) | fail)
local macro_rules | `(tactic| tm_at "lr") => `(tactic| first | with_reducible assumption | (with_reducible refine' Hs.dlv ?k1 ?k2; (case k1 => with_reducible assumption); (case k2 => tm_at "loc")) | (with_reducible refine' Dt.dlv ?k1; (case k1 => tm_at "dt")) | fail)
local macro_rules | `(tactic| tm_at "zs") => `(tactic| first | with_reducible assumption | with_reducible exact List.Subset.refl _ | (with_reducible refine' List.Subset.trans ?k1 ?k2; (case k2 => with_reducible assumption); (case k1 => tm_at "zs")) | (with_reducible refine' List.Subset.trans ?k1 (List.subset_cons_self _ _); (case k1 => tm_at "zs")) | fail)
local macro_rules | `(tactic| tm_at "at") => `(tactic| first | with_reducible assumption | k_dflt rfl | fail)
local macro_rules | `(tactic| tm_at "dep") => `(tactic| first | with_reducible assumption | (with_reducible refine' Nat.le_trans (Nat.min_le_left _ _) ?k1; (case k1 => first | with_reducible assumption | exact Nat.le_of_ble_eq_true rfl)) | (with_reducible refine' Nat.le_trans (Nat.min_le_right _ _) ?k1; (case k1 => first | with_reducible assumption | exact Nat.le_of_ble_eq_true rfl)) | fail)
local macro_rules | `(tactic| tm_at "mono") => `(tactic| (intro φ ψ h s; repeat' (first | exact fun r1 r2 r3 r4 => h _ (s r1 r2 r3 r4) | exact fun r1 r2 r3 => h _ (s r1 r2 r3) | exact fun r1 r2 => h _ (s r1 r2) | exact fun r1 => h _ (s r1) | exact h _ s | (obtain ⟨x, s⟩ := s; refine ⟨x, ?_⟩))))
local macro_rules | `(tactic| tm_at "sz") => `(tactic| first | with_reducible assumption | omega | k_dflt (exact Nat.le_of_ble_eq_true rfl) | (simp only [List.length_map, List.length_append, List.length_cons, List.length_nil]; omega) | fail)
local macro_rules | `(tactic| tm_at "pre") => `(tactic| first | with_reducible assumption | trivial | omega | (refine ⟨?_, ?_⟩ <;> tm_at "pre") | fail)
local macro_rules | `(tactic| tm_at "step") => `(tactic| first
  | (with_reducible refine' h_ixTi ?k1 ?k2 ?_; (case k1 => tm_at "dt"); (case k2 => tm_at "at"))
  | (with_reducible refine' h_ixTs ?k1 ?k2 ?_; (case k1 => tm_at "dt"); (case k2 => tm_at "at"))
  | (with_reducible refine' h_ixTb ?k1 ?k2 ?_; (case k1 => tm_at "dt"); (case k2 => tm_at "at"))
  | (with_reducible refine' h_ixTn ?k1 ?k2 ?_; (case k1 => tm_at "dt"); (case k2 => tm_at "at"))
  | (with_reducible refine' h_ixT ?k0 ?k1 ?k2 ?_; (case k0 => with_reducible assumption); (case k1 => tm_at "dt"); (case k2 => tm_at "at"); intro x_ hd_ hs_)
  | (with_reducible refine' h_ixLi ?k0 ?k1 ?k2 ?_; (case k0 => with_reducible assumption); (case k1 => tm_at "lr"); (case k2 => tm_at "at"))
  | (with_reducible refine' h_ixLs ?k0 ?k1 ?k2 ?_; (case k0 => with_reducible assumption); (case k1 => tm_at "lr"); (case k2 => tm_at "at"))
  | (with_reducible refine' h_ixLb ?k0 ?k1 ?k2 ?_; (case k0 => with_reducible assumption); (case k1 => tm_at "lr"); (case k2 => tm_at "at"))
  | (with_reducible refine' h_ixL ?k0 ?k1 ?k2 ?_; (case k0 => with_reducible assumption); (case k1 => tm_at "lr"); (case k2 => tm_at "at"); intro x_ hd_ hs_)
  | (with_reducible refine' h_gtup ?k1 ?k2 ?_; (case k1 => tm_at "dt"); (case k2 => k_dflt rfl); intro xs_ hq_)
  | (with_reducible refine' h_gci ?k1 ?_; (case k1 => with_reducible assumption); intro xs_ hq_)
  | (with_reducible refine' h_gcs ?k1 ?_; (case k1 => with_reducible assumption); intro xs_ hq_)
  | (with_reducible refine' h_gcb ?k1 ?_; (case k1 => with_reducible assumption); intro xs_ hq_)
  | (with_reducible refine' h_gcn ?k1 ?_; (case k1 => with_reducible assumption); intro xs_ hq_)
  | (with_reducible refine' h_gc ?k0 ?k1 ?_; (case k0 => with_reducible assumption); (case k1 => with_reducible assumption); intro x_ xs_ hq_ hs_)
  | (with_reducible refine' h_gn ?k1 ?_; (case k1 => with_reducible assumption))
  | (with_reducible refine' h_lenL ?k1 ?_; (case k1 => tm_at "lr"))
  | (with_reducible refine' h_lenT ?k1 ?_; (case k1 => tm_at "dt"))
  | (with_reducible refine' h_tup ?k0 ?k1 ?k2 ?_; (case k0 => with_reducible assumption); (case k1 => k_dflt (exact Nat.le_of_ble_eq_true rfl)); (case k2 => tm_at "dts"); intro p_ H_ hs_)
  | (with_reducible refine' h_lst ?k0 ?k1 ?k2 ?_; (case k0 => with_reducible assumption); (case k1 => k_dflt (exact Nat.le_of_ble_eq_true rfl)); (case k2 => tm_at "dts"); intro p_ H_ hs_)
  | (with_reducible refine' h_tupO ?k0 ?k1 ?_; (case k0 => with_reducible assumption); (case k1 => k_dflt (exact Nat.le_of_ble_eq_true rfl)); intro p_ H_ hs_)
  | (with_reducible refine' h_lstO ?k0 ?k1 ?_; (case k0 => with_reducible assumption); (case k1 => k_dflt (exact Nat.le_of_ble_eq_true rfl)); intro p_ H_ hs_)
  | fail)
local macro_rules | `(tactic| tm_at "step") => `(tactic| first
  | (with_reducible refine' h_bmL ?k0 ?k1 ?_; (case k0 => with_reducible assumption); (case k1 => tm_at "loc"))
  | (with_reducible refine' h_app ?k0 ?k1 ?k2 ?k3 ?_; (case k0 => with_reducible assumption); (case k1 => tm_at "loc"); (case k2 => tm_at "dt"); (case k3 => tm_at "sz"); intro H_ hs_)
  | (with_reducible refine' h_setL ?k0 ?k1 ?k2 ?k3 ?_; (case k0 => with_reducible assumption); (case k1 => tm_at "loc"); (case k2 => tm_at "dt"); (case k3 => tm_at "at"); intro H_ hs_)
  | (with_reducible refine' h_slL ?k0 ?k1 ?_; (case k0 => with_reducible assumption); (case k1 => tm_at "lr"); intro p_ H_ hs_)
  | (with_reducible refine' h_sl3 ?k0 ?k1 ?_; (case k0 => with_reducible assumption); (case k1 => tm_at "dt"); intro p_ H_ hs_)
  | (with_reducible refine' h_slf1 ?k0 ?k1 ?_; (case k0 => with_reducible assumption); (case k1 => tm_at "dt"); intro p_ H_ hs_)
  | (with_reducible refine' h_slT ?k0 ?k1 ?_; (case k0 => with_reducible assumption); (case k1 => tm_at "dt"); intro p_ H_ hs_)
  | (with_reducible refine' h_catLe ?k0 ?k1 ?k2 ?k3 ?k4 ?_; (case k0 => with_reducible assumption); (case k1 => tm_at "lr"); (case k2 => tm_at "lr"); (case k3 => tm_at "sz"); (case k4 => ((try simp only [List.cons_append, List.nil_append]); k_dflt rfl)); intro p_ H_ hs_)
  | (with_reducible refine' h_catTe ?k0 ?k1 ?k2 ?k3 ?k4 ?_; (case k0 => with_reducible assumption); (case k1 => tm_at "dt"); (case k2 => tm_at "dt"); (case k3 => tm_at "sz"); (case k4 => ((try simp only [List.cons_append, List.nil_append]); k_dflt rfl)); intro p_ H_ hs_)
  | (with_reducible refine' h_extL ?k0 ?k1 ?k2 ?k3 ?_; (case k0 => with_reducible assumption); (case k1 => tm_at "loc"); (case k2 => tm_at "lr"); (case k3 => tm_at "sz"); intro H_ hs_)
  | (with_reducible refine' h_tupOfL ?k0 ?k1 ?_; (case k0 => with_reducible assumption); (case k1 => tm_at "lr"); intro p_ H_ hs_)
  | (with_reducible refine' h_tupOfT ?k1 ?_; (case k1 => tm_at "dt"))
  | (with_reducible refine' h_listOfL ?k0 ?k1 ?_; (case k0 => with_reducible assumption); (case k1 => tm_at "lr"); intro p_ H_ hs_)
  | (with_reducible refine' h_listOfT ?k0 ?k1 ?_; (case k0 => with_reducible assumption); (case k1 => tm_at "dt"); intro p_ H_ hs_)
  | (with_reducible refine' h_eq ?k1 ?k2 ?k3 ?_; (case k1 => tm_at "da"); (case k2 => tm_at "da"); (case k3 => tm_at "dep"))
  | (with_reducible refine' h_ne ?k1 ?k2 ?k3 ?_; (case k1 => tm_at "da"); (case k2 => tm_at "da"); (case k3 => tm_at "dep"))
  | (with_reducible refine' h_inL ?k1 ?k2 ?k3 ?_; (case k1 => tm_at "dt"); (case k2 => tm_at "da"); (case k3 => tm_at "dep"))
  | (with_reducible refine' h_niL ?k1 ?k2 ?k3 ?_; (case k1 => tm_at "dt"); (case k2 => tm_at "da"); (case k3 => tm_at "dep"))
  | (with_reducible refine' h_inT ?k1 ?k2 ?k3 ?_; (case k1 => tm_at "dt"); (case k2 => tm_at "dt"); (case k3 => tm_at "dep"))
  | (with_reducible refine' h_niT ?k1 ?k2 ?k3 ?_; (case k1 => tm_at "dt"); (case k2 => tm_at "dt"); (case k3 => tm_at "dep"))
  | with_reducible refine u_chain ?_
  | (with_reducible refine' h_min4 ?k1 ?_; (case k1 => tm_at "dt"); intro m_ h1_ h2_ h3_ h4_ h5_)
  | (with_reducible refine' h_iL ?k1 ?_; (case k1 => tm_at "lr"))
  | (with_reducible refine' h_iT ?k1 ?_; (case k1 => tm_at "dt"))
  | (with_reducible refine' lcE ?k1 ?k2 ?k3 ?k4 ?k5 ?_; (case k1 => tm_at "wk"); (case k2 => tm_at "zs"); (case k3 => omega); (case k4 => omega); (case k5 => tm_at "dt"))
  | (with_reducible refine' lcS ?k1 ?k2 ?k3 ?_; (case k1 => tm_at "wk"); (case k2 => tm_at "zs"); (case k3 => omega))
  | with_reducible refine u_iA ?_
  | (with_reducible refine' f_repG ?k1 ?k2 ?k3 ?_; (case k1 => omega); (case k2 => omega); (case k3 => omega); intro z_ hz_)
  | (with_reducible refine' k_vA ?k0 ?k1 ?k2 ?_; (case k0 => with_reducible assumption); (case k1 => tm_at "dts"); (case k2 => tm_at "mono"))
  | (with_reducible refine' k_wA ?k0 ?k1 ?k2 ?k3 ?_; (case k0 => with_reducible assumption); (case k1 => tm_at "loc"); (case k2 => tm_at "dts"); (case k3 => tm_at "mono"))
  | (with_reducible refine' k_vlA ?k0 ?k1 ?k2 ?_; (case k0 => with_reducible assumption); (case k1 => tm_at "dts"); (case k2 => tm_at "mono"))
  | (with_reducible refine' k_wlA ?k0 ?k1 ?k2 ?k3 ?_; (case k0 => with_reducible assumption); (case k1 => tm_at "loc"); (case k2 => tm_at "dts"); (case k3 => tm_at "mono"))
  | (with_reducible refine ret_int ?_; intro H_ hs_)
  | (with_reducible refine ret_str ?_; intro H_ hs_)
  | (with_reducible refine ret_bl ?_; intro H_ hs_)
  | (with_reducible refine ret_non ?_; intro H_ hs_)
  | (with_reducible refine ret_any ?_; intro v_ Z_ H_ hz_ hs_)
  | (with_reducible refine retL ?_; intro p_ Z_ H_ hz_ hs_)
  | fail)
local macro_rules | `(tactic| tm_at "step") => `(tactic| first
  | with_reducible refine u_isNi ?_
  | with_reducible refine u_isNb ?_
  | with_reducible refine u_isNs ?_
  | with_reducible refine u_isi (.base (.str _)) kB_sb ?_
  | with_reducible refine u_isi (.base (.str _)) kB_ss ?_
  | with_reducible refine u_isi (.base (.str _)) kB_si ?_
  | with_reducible refine u_isi (.base (.bl _)) kB_bs ?_
  | with_reducible refine u_isi (.base (.bl _)) kB_bi ?_
  | with_reducible refine u_isi (.base (.int _)) kB_is ?_
  | (with_reducible refine' u_isi (ty_tup ?k1) kB_tt ?_; (case k1 => tm_at "dt"))
  | (with_reducible refine' u_isi (ty_tup ?k1) kB_tl ?_; (case k1 => tm_at "dt"))
  | (with_reducible refine' u_isi (ty_tup ?k1) kB_tb ?_; (case k1 => tm_at "dt"))
  | (with_reducible refine' u_isi (ty_tup ?k1) kB_ts ?_; (case k1 => tm_at "dt"))
  | (with_reducible refine' u_isi (ty_tup ?k1) kB_ti ?_; (case k1 => tm_at "dt"))
  | (with_reducible refine' u_isi (ty_lst ?k1) kB_lt ?_; (case k1 => tm_at "lr"))
  | (with_reducible refine' u_isi (ty_lst ?k1) kB_ll ?_; (case k1 => tm_at "lr"))
  | (with_reducible refine' u_isi (ty_lst ?k1) kB_lb ?_; (case k1 => tm_at "lr"))
  | (with_reducible refine' u_isi (ty_lst ?k1) kB_ls ?_; (case k1 => tm_at "lr"))
  | (with_reducible refine' u_isi (ty_lst ?k1) kB_li ?_; (case k1 => tm_at "lr"))
  | fail)
local macro_rules | `(tactic| tm_at "anyi") => `(tactic| (intro d hd; simp only [List.mem_cons, List.not_mem_nil, or_false] at hd; repeat' (rcases hd with rfl | hd); all_goals (first | exact ⟨_, rfl⟩ | (subst hd; exact ⟨_, rfl⟩))))
local macro_rules | `(tactic| tm_at "len") => `(tactic| (simp only [List.length_cons, List.length_nil, List.length_map, List.length_append]; omega))
local macro_rules | `(tactic| tm_at "step") => `(tactic| first
  | with_reducible refine u_dget2 ?_
  | with_reducible refine u_dput ?_
  | (with_reducible refine' h_dnewT ?k0 ?_; (case k0 => with_reducible assumption); intro p_ H_ hs_)
  | (with_reducible refine' h_dgA ?k0 ?k1 ?_; (case k0 => with_reducible assumption); (case k1 => tm_at "loc"))
  | fail)
local macro_rules | `(tactic| tm_at "finv") => `(tactic| (with_reducible refine' fin_v ?k1 ?k2 ?_; (case k1 => with_reducible assumption); (case k2 => tm_at "dt")))
local macro_rules | `(tactic| tm_at "finw") => `(tactic| (with_reducible refine' fin_w ?k1 ?k2 ?k3 ?_; (case k1 => with_reducible assumption); (case k2 => tm_at "loc"); (case k3 => tm_at "dt")))
local macro_rules | `(tactic| tm_at "finvl") => `(tactic| (with_reducible refine' fin_vl ?k1 ?k2 ?_; (case k1 => with_reducible assumption); (case k2 => tm_at "loc")))

local macro_rules | `(tactic| tm_at "step") => `(tactic| first | (with_reducible refine' k_draw ?k1 ?k2 ?_; (case k1 => tm_at "lp"); (case k2 => k_dflt omega); intro r_ H_ h0_ h1_ hk_ hp_) | fail)
local macro_rules | `(tactic| tm_at "step") => `(tactic| first | with_reducible refine k_int ?_ | fail)
local macro_rules | `(tactic| tm_at "step") => `(tactic| first | (with_reducible refine' k_pool ?k1 ?k2 ?_; (case k1 => tm_at "ls"); (case k2 => k_dflt (tm_at "side")); intro p_ H_ hn_ hk_ hp_) | fail)
local macro_rules | `(tactic| tm_at "step") => `(tactic| first | (with_reducible refine' h_draw ?k0 ?k1 ?k2 ?_; (case k0 => with_reducible assumption); (case k1 => tm_at "loc"); (case k2 => k_dflt omega); intro r_ H_ h0_ h1_ hs_) | fail)
local macro_rules | `(tactic| tm_at "ln") => `(tactic| first | with_reducible assumption | omega | (simp only [SX.S_len, Str.length_append]; omega) | fail)
local macro_rules | `(tactic| tm_at "lg") => `(tactic| first | with_reducible assumption | (with_reducible refine' bt_log ?k1; (case k1 => tm_at "bm")) | fail)
local macro_rules | `(tactic| tm_at "step") => `(tactic| first
  | with_reducible refine u_eqS ?_
  | with_reducible refine u_neS ?_
  | with_reducible refine bm_str ?_
  | with_reducible refine u_bm0 ?_
  | with_reducible refine u_find ?_
  | with_reducible refine u_asc ?_
  | with_reducible refine u_dgt ?_
  | with_reducible refine u_inS ?_
  | with_reducible refine u_niS ?_
  | with_reducible refine u_isNn ?_
  | with_reducible refine u_isNr ?_
  | (with_reducible refine' u_partS ?k1 ?k2 ?_; (case k1 => k_dflt rfl); (case k2 => tm_at "ln"); intro p_ H_ hn_ hk_ ho_)
  | (with_reducible refine' u_rmp ?k1 ?_; (case k1 => tm_at "ln"))
  | (with_reducible refine' u_addS ?k1 ?_; (case k1 => tm_at "ln"))
  | (with_reducible refine' u_lenS ?k1 ?_; (case k1 => tm_at "ln"))
  | (with_reducible refine' u_strI ?k1 ?_; (case k1 => tm_at "lg"))
  | (with_reducible refine' u_slX ?k1 ?_; (case k1 => tm_at "ln"))
  | with_reducible refine u_iS ?_
  | with_reducible refine u_iSq ?_
  | with_reducible refine u_join ?_
  | with_reducible refine js_cons ?_
  | with_reducible refine js_nil ?_
  | (with_reducible refine' jsQ ?k1 ?_; (case k1 => tm_at "ln"))
  | with_reducible refine u_fmt ?_
  | (with_reducible refine' fmtI ?k1 ?_; (case k1 => tm_at "lg"))
  | fail)

local macro_rules | `(tactic| tm_at "step") => `(tactic| first | (with_reducible refine' sp_is_name ?k1 ?_; (case k1 => tm_at "pre")) | fail)
local macro_rules | `(tactic| tm_at "step") => `(tactic| first | (with_reducible refine' sp_l_is_name ?k1 ?_; (case k1 => tm_at "pre")) | fail)
local macro_rules | `(tactic| tm_at "step") => `(tactic| first | (with_reducible refine sp_l_name ?_; intro z_ hr_) | fail)
local macro_rules | `(tactic| tm_at "step") => `(tactic| first | (with_reducible refine sp_l_names ?_; intro zs_ hr_) | fail)
local macro_rules | `(tactic| tm_at "step") => `(tactic| first | (with_reducible refine' sp_l_odd_name ?k1 ?_; (case k1 => tm_at "pre"); intro z_ hr_) | fail)
local macro_rules | `(tactic| tm_at "step") => `(tactic| first | (with_reducible refine sp_l_book ?_; intro s_ f_ cs_ hr_) | fail)
local macro_rules | `(tactic| tm_at "step") => `(tactic| first | (with_reducible refine' sp_l_more_options ?k1 ?_; (case k1 => tm_at "pre"); intro cs2_ hr_) | fail)
local macro_rules | `(tactic| tm_at "step") => `(tactic| first | (with_reducible refine' sp_l_bent ?k1 ?_; (case k1 => tm_at "pre"); intro s2_ f2_ cs2_ hr_) | fail)
local macro_rules | `(tactic| tm_at "step") => `(tactic| first | (with_reducible refine' sp_l_is_book ?k1 ?_; (case k1 => tm_at "pre")) | fail)
local macro_rules | `(tactic| tm_at "step") => `(tactic| first | (with_reducible refine' sp_l_keys ?k1 ?_; (case k1 => tm_at "pre"); intro ks_ hr_) | fail)
local macro_rules | `(tactic| tm_at "step") => `(tactic| first | (with_reducible refine u_sfld ?_) | (with_reducible refine u_newI ?_) | (with_reducible refine u_prop ?_) | fail)
theorem sp_l_same {n : Nat} {d : PyData} {φ : PyData → Prop} (p : d.depth < n ∧ wid d ≤ 100000) (k : φ (.bool true)) : S_same n [d, d] φ := ⟨d, rfl, p, k⟩
def spRefu (K : PySem.W.Frag) : Sp := fun vs H Q _ => ∃ (Z : List Addr) (cs : List Ch) (how s f : Int) (v : V), vs = [.int s, .int f, v] ∧ (∀ z ∈ Z, ∃ o, H z = some o) ∧ Dt K Z H v (hand cs how) ∧ Sml 60 cs ∧ isBook s f cs = false ∧ ∀ H', Kp [] H H' → Q (.bl true) H'
def spOH (K : PySem.W.Frag) (C : Addr) : Sp := fun vs H Q _ => ∃ (p o : Addr) (s f : Int) (Z : List Addr) (cs : List Ch) (v2 v3 : V) (n : Str) (i j : Int), vs = [.ref p, v2, v3] ∧ PB K C H p o s f cs ∧ (∀ z ∈ Z, ∃ o, H z = some o) ∧ Dt K Z H v2 (.list (cs.map eCh)) ∧ Dt K Z H v3 (eK (n, i, j)) ∧ Sml 60 cs ∧ ∀ H', Kp [] H H' → Q (.bl true) H'
def spKeeps (K : PySem.W.Frag) (C : Addr) : Sp := fun vs H Q _ => ∃ (p o : Addr) (s f : Int) (Z : List Addr) (cs : List Ch) (v2 v3 : V) (ks : List (Str × Int × Int)), vs = [.ref p, v2, v3] ∧ PB K C H p o s f cs ∧ (∀ z ∈ Z, ∃ o, H z = some o) ∧ Dt K Z H v2 (eBk s f cs) ∧ Dt K Z H v3 (.list (ks.map eK)) ∧ Sml 60 cs ∧ ∀ H', Kp [] H H' → Q (.bl true) H'
def spHolds (K : PySem.W.Frag) : Sp := fun vs H Q _ => ∃ (s f how : Int) (Z : List Addr) (cs : List Ch) (v : V), vs = [v, .int how] ∧ (∀ z ∈ Z, ∃ o, H z = some o) ∧ Dt K Z H v (eBk s f cs) ∧ Sml 60 cs ∧ (0 ≤ how ∧ how ≤ 3) ∧ ∀ H', Kp [] H H' → Q (.bl true) H'
theorem meth_pb {K : PySem.W.Frag} {C p o : Addr} {H : Hp} {st fi : Int} {cs : List Ch} {R : Prop} (pb : PB K C H p o st fi cs) (q : R) : MethQ C "options" (.ref p) H R := by
  obtain ⟨dx, c, sd, h1, h2, h3, h4⟩ := pb
  exact ⟨p, dx, _, rfl, h1, pb_no (by decide +kernel) (by decide +kernel) (by decide +kernel) (by decide +kernel), q⟩
theorem pr_pb {K : PySem.W.Frag} {C p o : Addr} {H : Hp} {st fi : Int} {cs : List Ch} {E : XK} {Q : VK} (pb : PB K C H p o st fi cs) (pre : Sml 60 cs) (k : ∀ H', Kp [] H H' → Q (.bl (single cs)) H') : PrQ C (spDet K C) E (.ref p) H Q := by
  obtain ⟨dx, c, sd, h1, h2, h3, h4⟩ := id pb
  exact ⟨p, dx, _, rfl, h1, p, o, st, fi, cs, rfl, pb, pre, k⟩
local macro_rules | `(tactic| tm_at "step") => `(tactic| first | (with_reducible refine' sp_l_same ?k1 ?_; (case k1 => tm_at "pre")) | fail)
theorem kp_fresh {N : List Addr} {H H' : Hp} (k : Kp N H H') (n : ∀ a ∈ N, H a = none) : Kp [] H H' := fun b u _ e => k b u (fun z => by rw [n b z] at e; cases e) e
def lstZ (H : Hp) (Z : List Addr) : List Addr := Z.filter fun z => match H z with | some (.lst _) => true | _ => false
theorem lstZ_mem {H : Hp} {Z : List Addr} {z : Addr} : z ∈ lstZ H Z ↔ z ∈ Z ∧ ∃ xs, H z = some (.lst xs) := by
  unfold lstZ
  rw [List.mem_filter]
  refine and_congr Iff.rfl ?_
  cases e : H z with
  | none => simp
  | some o => cases o <;> simp
section
variable {K : PySem.W.Frag} {Z : List Addr} {H : Hp}
mutual
theorem dt_lstZ : ∀ (d : PyData) (v : V), Dt K Z H v d → Dt K (lstZ H Z) H v d
  | .none, _, h => by cases h; exact .non
  | .bool _, _, h => by cases h; exact .bl _
  | .int _, _, h => by cases h; exact .int _
  | .str _, _, h => by cases h; exact .str _
  | .list ds, _, h => by
    cases h with
    | lst z t a => exact .lst (lstZ_mem.mpr ⟨z, _, t⟩) t (dts_lstZ ds _ a)
  | .tuple ds, _, h => by
    cases h with
    | tup t a => exact .tup t (dts_lstZ ds _ a)
  | .dict _, _, h => by cases h
theorem dts_lstZ : ∀ (ds : List PyData) (vs : List V), Dts K Z H vs ds → Dts K (lstZ H Z) H vs ds
  | [], _, h => by cases h; exact .nil
  | d :: ds, _, h => by
    cases h with
    | cons h1 h2 => exact .cons (dt_lstZ d _ h1) (dts_lstZ ds _ h2)
end
end
theorem PB.kpN {K : PySem.W.Frag} {C p o : Addr} {H H' : Hp} {s f : Int} {cs : List Ch} {N : List Addr} (k : Kp N H H') (ln : ∀ a ∈ N, ∃ xs, H a = some (.lst xs)) (h : PB K C H p o s f cs) : PB K C H' p o s f cs := by
  obtain ⟨dx, c, sd, h1, h2, ⟨r, h3, h3'⟩, h4⟩ := h
  have im : Im [] H H' := k.imN (fun a ha xs e => by obtain ⟨ys, e2⟩ := ln a ha; rw [e2] at e; cases e) fun a ha z => by cases z
  have np : ∀ {a : Addr} {u : HO}, H a = some u → (∀ xs, u ≠ .lst xs) → H' a = some u := fun {a u} e n => k a u (fun z => by obtain ⟨ys, e2⟩ := ln a z; rw [e2] at e; exact n ys (Option.some.inj e).symm) e
  exact ⟨dx, c, sd, np h1 (fun xs z => by cases z), h2.im im, ⟨r, np h3 (fun xs z => by cases z), h3'.im im⟩, h4⟩
theorem single_more {cs : List Ch} {i : Nat} {c : Ch} (h : cs[i]? = some c) : ((cs.take (i + 1)).all fun c => decide ((cs.filter (fun d => sameK d c)).length = 1)) = (((cs.take i).all fun c => decide ((cs.filter (fun d => sameK d c)).length = 1)) && decide ((cs.filter (fun d => sameK d c)).length = 1)) := by
  rw [_root_.Fr.take_more h, List.all_append, List.all_cons, List.all_nil, Bool.and_true]

section
variable {P : Program} {w : World} {K : PySem.W.Frag} {mg : Str → Option Value} {base : Heap} {CPlainBook COddsError CBadShare CBadText CBadBook CBadMove CBadProgram CBadPlan CUnfit CTooLarge CBadEdit : Addr}
theorem ok_l_refused (T : Txt K mg CPlainBook COddsError CBadShare CBadText CBadBook CBadMove CBadProgram CBadPlan CUnfit CTooLarge CBadEdit) : Fc P w K mg base CX0 5 "_law_refused" ["states", "first", "given"] (spRefu K) := by
  refine fc_of T.d_l_refused sc_l_refused (fun vs H Q E h => by obtain ⟨Z, cs, how, st, fi, v, rfl, zl, hv, pre, hb, k⟩ := h; rfl) (fun _ _ _ _ _ _ us hl => match us, hl with | [_, _, _], _ => rfl) fun f cdv A outer s H vs Q E hr h => ⟨_, (pss_cons (ps_set (i := 3) sc_l_refused.nd rfl (Or.inl rfl) pe_bl)
 (pss_cons (ps_try_as (i := 4) (Wout := fun _ _ _ _ => False) rfl rfl sc_l_refused.nd rfl rfl ⟨rfl, by decide, Or.inl T.e_OddsError.g⟩ takes0 (fun W pn xe tk _ =>
 (pss_one (ps_expr (pe_pb (ok_PlainBook T) (fun σ => passAt tk σ) (hr.mono (by omega)) (pa_cons (pv 0) (pa_cons (pv 1) (pa_cons (pv 2) pa_nil)))))))
 (fun a oe cls d pn hz hf =>
 (pss_cons (ps_set (i := 3) sc_l_refused.nd rfl (Or.inl rfl) (pe_and (pe_callB (c_isE hz hf) (by rfl) T.n_isinstance b_isinstance (pa_cons (pv 4) (pa_cons (pe_glob (v := .ref CBadBook) rfl T.e_BadBook.g rfl) pa_nil))) (pe_one (pe_callB (c_isE hz hf) (by rfl) T.n_isinstance b_isinstance (pa_cons (pv 4) (pa_cons (pe_bltn (v := .ty "ValueError") (by rfl) T.n_ValueError b_ValueError rfl) pa_nil))))))
 (pss_one (ps_if (pt_val (pe_callB (c_isET hz hf) (by rfl) T.n_isinstance b_isinstance (pa_cons (pv 4) (pa_cons (pe_tup (pa_cons (pe_glob (v := .ref CBadShare) rfl T.e_BadShare.g rfl) (pa_cons (pe_glob (v := .ref CBadText) rfl T.e_BadText.g rfl) (pa_cons (pe_glob (v := .ref CBadMove) rfl T.e_BadMove.g rfl) (pa_cons (pe_glob (v := .ref CBadProgram) rfl T.e_BadProgram.g rfl) (pa_cons (pe_glob (v := .ref CBadPlan) rfl T.e_BadPlan.g rfl) (pa_cons (pe_glob (v := .ref CUnfit) rfl T.e_Unfit.g rfl) (pa_cons (pe_glob (v := .ref CTooLarge) rfl T.e_TooLarge.g rfl) (pa_cons (pe_glob (v := .ref CBadEdit) rfl T.e_BadEdit.g rfl) pa_nil))))))))) pa_nil))))
 (pss_one (ps_set (i := 3) sc_l_refused.nd rfl (Or.inl rfl) pe_bl))
 pss_nil)))))
 (pss_one (ps_ret (pv 3))))), ?_⟩
  obtain ⟨Z, cs, how, st, fi, v, rfl, zl, hv, pre, hb, k⟩ := h
  have nos : ∀ C ∈ [CBadShare, CBadText, CBadMove, CBadProgram, CBadPlan, CUnfit, CTooLarge, CBadEdit], PySem.W.kitOne K (.ref CBadBook) (.ref C) = some false := by
    intro C hC
    simp only [List.mem_cons, List.not_mem_nil, or_false] at hC
    rcases hC with rfl | rfl | rfl | rfl | rfl | rfl | rfl | rfl
    · exact T.e_BadShare.no T.no_BadShare
    · exact T.e_BadText.no T.no_BadText
    · exact T.e_BadMove.no T.no_BadMove
    · exact T.e_BadProgram.no T.no_BadProgram
    · exact T.e_BadPlan.no T.no_BadPlan
    · exact T.e_Unfit.no T.no_Unfit
    · exact T.e_TooLarge.no T.no_TooLarge
    · exact T.e_BadEdit.no T.no_BadEdit
  have hs : Hs K ⟨H, [], Z⟩ Z H [] [([v], [hand cs how])] := (Hs.start (fun _ z => by cases z) zl).fact1 hv
  tm_at "go"
  refine k_pb zl hv pre (fun _ H1 k1 => ?_) (fun g => by rw [hb] at g; cases g)
  refine ⟨true, T.e_OddsError.exm T.up, fun _ x nx => ?_, fun z => by cases z⟩
  tm_at "run"
  refine isE_self T.e_BadBook.e ?_
  tm_at "run"
  refine isE_VE T.e_BadBook.e T.upV ?_
  tm_at "run"
  rename_i tp H2 nt k2 ot
  refine isET_none [CBadShare, CBadText, CBadMove, CBadProgram, CBadPlan, CUnfit, CTooLarge, CBadEdit] T.e_BadBook.e ot nos ?_
  tm_at "run"
  exact k _ (by tm_at "kc")
theorem ok_l_options_hold (T : Txt K mg CPlainBook COddsError CBadShare CBadText CBadBook CBadMove CBadProgram CBadPlan CUnfit CTooLarge CBadEdit) : Fc P w K mg base CX0 8 "_law_options_hold" ["told", "choices", "key"] (spOH K CPlainBook) := by
  refine fc_of T.d_l_options_hold sc_l_options_hold (fun vs H Q E h => by obtain ⟨p, o, st, fi, Z, cs, v2, v3, n, i, j, rfl, pb, zl, h2, h3, pre, k⟩ := h; rfl) (fun _ _ _ _ _ _ us hl => match us, hl with | [_, _, _], _ => rfl) fun f cdv A outer s H vs Q E hr h => ⟨_, (pss_cons (ps_setLc (i := 3) (own := [("c", 5)]) (g := (gName 5)) rfl sc_l_options_hold.nd rfl rfl (sw_true rfl rfl rfl (by decide +kernel)) (piLK K (pv 1)) (blkOk_by (own := [("c", 5)]) (N := ["told", "choices", "key", "due", "got", "c"]) (sc := defScope s_l_options_hold) (by decide +kernel)) (fun _ _ _ _ _ => (pg_name (i := 5) sc_l_options_hold.nd rfl (Or.inl rfl))) (fun _ _ _ _ _ => (pts_one (pt_cmpR (eqAK K hr.units) (pe_slice (sltAK K) (pv 5) po_none (po_some pe_int)) (pv 2) (nomark _)))) (fun _ _ _ _ _ => (pe_tup (pa_cons (pe_ix (ixtK K) (pv 5) pe_int (fun _ _ => rfl)) (pa_cons (pe_ix (ixtK K) (pv 5) pe_int (fun _ _ => rfl)) pa_nil)))))
 (pss_cons (ps_set (i := 4) sc_l_options_hold.nd rfl (Or.inl rfl) (pe_mc (ok_PlainBook_options T) T.pb.cl pass0 (hr.mono (by omega)) (pv 0) (pa_cons (pe_ix (ixtK K) (pv 2) pe_int (fun _ _ => rfl)) (pa_cons (pe_ix (ixtK K) (pv 2) pe_int (fun _ _ => rfl)) (pa_cons (pe_ix (ixtK K) (pv 2) pe_int (fun _ _ => rfl)) pa_nil)))))
 (pss_cons (ps_if (pt_not (pt_val (pe_fc (ok_l_same T 5) pass0 (hr.mono (by omega)) (pa_cons (pv 4) (pa_cons (pv 3) pa_nil)))))
 (pss_one (ps_ret pe_bl))
 pss_nil)
 (pss_cons (ps_expr (pe_bm PySem.F.plainAttrs_list PySem.F.slot_list_append PySem.F.type_list_append mt_append (pv 4) (pa_cons (pe_tup (pa_cons pe_int (pa_cons pe_int pa_nil))) pa_nil)))
 (pss_one (ps_ret (pe_fc (ok_l_same T 5) pass0 (hr.mono (by omega)) (pa_cons (pe_mc (ok_PlainBook_options T) T.pb.cl pass0 (hr.mono (by omega)) (pv 0) (pa_cons (pe_ix (ixtK K) (pv 2) pe_int (fun _ _ => rfl)) (pa_cons (pe_ix (ixtK K) (pv 2) pe_int (fun _ _ => rfl)) (pa_cons (pe_ix (ixtK K) (pv 2) pe_int (fun _ _ => rfl)) pa_nil)))) (pa_cons (pv 3) pa_nil))))))))), ?_⟩
  obtain ⟨p, o, st, fi, Z, cs, v2, v3, n, i, j, rfl, pb, zl, h2, h3, pre, k⟩ := h
  have hs : Hs K ⟨H, [], Z⟩ Z H [] [([v3], [eK (n, i, j)]), ([v2], [.list (cs.map eCh)])] := ((Hs.start (fun _ z => by cases z) zl).fact1 h2).fact1 h3
  have lc : (cs.map eCh).length = cs.length := List.length_map _
  have hcl := pre.1
  have due : ∀ (vs : List V) (Z4 : List Addr) (H4 : Hp) (q D : Addr) (M : List (List V × List PyData)) (L : List Ent) (R : VK), vs = [.ref q, .ref D] → Hs K ⟨H, [], Z⟩ Z4 H4 (.dl K q ((optsK cs [.inr n, .inl i, .inl j]).map ePr) true :: .dl K D ((optsK cs [.inr n, .inl i, .inl j]).map ePr) true :: L) M → (∀ H5, Kp [] H4 H5 → R (.bl true) H5) → ∀ E, spV K (S_same 5) vs H4 R E := by
    intro vs Z4 H4 q D M L R ev hs4 hR E9
    subst ev
    have hF := (hs4.freeze .here).freeze .here
    refine ⟨D :: q :: Z4, [.list _, .list _], hF.zl, .cons (hF.dt (.tail _ (.head _))) (.cons (hF.dt (.head _)) .nil), sp_l_same ⟨?_, ?_⟩ fun v H5 k5 rv => ?_⟩
    · have := dep_map ePr 1 (fun x => Nat.le_refl _) (optsK cs [.inr n, .inl i, .inl j])
      show PyData.depthAll _ + 1 < 5
      omega
    · have := wid_map ePr 10 (fun x => by show (2 : Nat) ≤ 10; decide) (optsK cs [.inr n, .inl i, .inl j])
      have l1 : ((optsK cs [.inr n, .inl i, .inl j]).map ePr).length ≤ 60 := by
        unfold optsK
        rw [List.length_map, List.length_map]
        exact Nat.le_trans (List.length_filter_le _ _) hcl
      show max _ _ ≤ _
      omega
    · obtain ⟨Z5, _, _, q5⟩ := rv
      rw [q5.bl_inv]
      exact hR _ k5
  tm_at "go"
  refine h_lcL (cs.map eCh) (fun m acc => acc = (optsK (cs.take m) [.inr n, .inl i, .inl j]).map ePr) hs (fun D acc Z' H' h => by tm_at "lr") rfl (fun D i2 d x2 acc Z3 H9 hd2 hr hacc hz hs9 => ?_) (fun D acc Z3 H9 hr hacc hz hs9 => ?_)
  · obtain ⟨c, he, rfl⟩ := at_map hd2
    have hi2 : i2 < 100000 := by have := (List.getElem?_eq_some_iff.mp he).1; omega
    tm_at "run"
    · have hb : PyData.eqv (.tuple [.str c.nm, .int c.h, .int c.a]) (.tuple [.str n, .int i, .int j]) = true := by assumption
      rw [eqv_key, decide_eq_true_iff] at hb
      show _ = _
      rw [_root_.Fr.take_more he, optsK_snoc, if_pos (by obtain ⟨e1, e2, e3⟩ := hb; unfold keyOf; rw [e1, e2, e3]), List.map_append, hr]
      rfl
    · have hb : PyData.eqv (.tuple [.str c.nm, .int c.h, .int c.a]) (.tuple [.str n, .int i, .int j]) = false := by assumption
      rw [eqv_key, decide_eq_false_iff_not] at hb
      show _ = _
      rw [_root_.Fr.take_more he, optsK_snoc, if_neg (fun z => hb (by unfold keyOf at z; simp only [List.cons.injEq, Sum.inr.injEq, Sum.inl.injEq, and_true] at z; exact z)), List.append_nil, hr]
  · rw [lc, List.take_length] at hr
    rw [hr] at hs9
    tm_at "run"
    refine meth_pb (pb.kp0 hs9.kp) ?_
    tm_at "run"
    refine ⟨p, o, st, fi, cs, n, i, j, rfl, pb.kp0 (show Hs K ⟨H, [], Z⟩ _ _ _ _ from by assumption).kp, pre, fun q H4 k4 nq dq => ?_⟩
    have hs4 := hs9.newDl (k4 : Kp [] _ _) nq (by obtain ⟨xs, h1, h2⟩ := dq; exact ⟨xs, h1, h2.zs (fun _ z => by cases z)⟩)
    tm_at "run"
    refine due _ _ _ _ _ _ _ _ rfl hs4 (fun H5 k5 => ?_) _
    have hs5 := hs4.same k5
    have l9 : ((optsK cs [.inr n, .inl i, .inl j]).map ePr).length ≤ 60 := by
      unfold optsK
      rw [List.length_map, List.length_map]
      exact Nat.le_trans (List.length_filter_le _ _) hcl
    tm_at "run"
    rename_i hs7
    refine meth_pb (pb.kp0 hs7.kp) ?_
    tm_at "run"
    refine ⟨p, o, st, fi, cs, n, i, j, rfl, pb.kp0 hs7.kp, pre, fun q2 H6 k6 nq2 dq2 => ?_⟩
    have hs6 := hs7.newDl k6 nq2 (by obtain ⟨xs, h1, h2⟩ := dq2; exact ⟨xs, h1, h2.zs (fun _ z => by cases z)⟩)
    have hs8 : Hs K ⟨H, [], Z⟩ Z3 H6 (.dl K q2 ((optsK cs [.inr n, .inl i, .inl j]).map ePr) true :: .dl K D ((optsK cs [.inr n, .inl i, .inl j]).map ePr) true :: []) [([v3], [eK (n, i, j)])] := by tm_at "wk"
    tm_at "run"
    refine due _ _ _ _ _ _ _ _ rfl hs8 (fun H7 k7 => ?_) _
    exact k _ (hs8.same k7).kp
theorem ok_l_keeps (T : Txt K mg CPlainBook COddsError CBadShare CBadText CBadBook CBadMove CBadProgram CBadPlan CUnfit CTooLarge CBadEdit) : Fc P w K mg base CX0 9 "_law_keeps" ["told", "book", "keys"] (spKeeps K CPlainBook) := by
  refine fc_of T.d_l_keeps sc_l_keeps (fun vs H Q E h => by obtain ⟨p, o, st, fi, Z, cs, v2, v3, ks, rfl, pb, zl, h2, h3, pre, k⟩ := h; rfl) (fun _ _ _ _ _ _ us hl => match us, hl with | [_, _, _], _ => rfl) fun f cdv A outer s H vs Q E hr h => ⟨_, (pss_cons (ps_asg (pv 1) (pgTK K 3 (by rfl) (pgs_cons (pg_name (i := 3) sc_l_keeps.nd rfl (Or.inl rfl)) (pgs_cons (pg_name (i := 4) sc_l_keeps.nd rfl (Or.inl rfl)) (pgs_cons (pg_name (i := 5) sc_l_keeps.nd rfl (Or.inl rfl)) pgs_nil)))))
 (pss_cons (ps_if (pt_not (pt_val (pe_fc (ok_l_same T 5) pass0 (hr.mono (by omega)) (pa_cons (pe_tup (pa_cons (fldK K (pv 0) rfl) (pa_cons (fldK K (pv 0) rfl) (pa_cons (fldK K (pv 0) rfl) pa_nil)))) (pa_cons (pe_tup (pa_cons (pv 3) (pa_cons (pv 4) (pa_cons (pe_callTy (tupK K) (by rfl) T.n_tuple b_tuple (pa_cons (pv 5) pa_nil)) pa_nil)))) pa_nil)))))
 (pss_one (ps_ret pe_bl))
 pss_nil)
 (pss_cons (ps_set (i := 6) sc_l_keeps.nd rfl (Or.inl rfl) pe_bl)
 (pss_cons (ps_for PassesOwn.never rfl (piLK K (pv 5)) (pg_name (i := 7) sc_l_keeps.nd rfl (Or.inr rfl))
 (pss_one (ps_set (i := 6) sc_l_keeps.nd rfl (Or.inl rfl) (pe_and (pv 6) (pe_one (pe_cmpR op_eq (pe_callB (lenK K) (by rfl) T.n_len b_len (pa_cons (pe_lc (own := [("d", 9)]) (g := (gName 9)) rfl sc_l_keeps.nd (piLK K (pv 5)) (blkOk_by (own := [("d", 9)]) (N := ["told", "book", "keys", "states", "first", "choices", "single", "c", "key", "d"]) (sc := defScope s_l_keeps) (by decide +kernel)) (fun _ _ _ _ _ => (pg_name (i := 9) sc_l_keeps.nd rfl (Or.inl rfl))) (fun _ _ _ _ _ => (pts_one (pt_cmpR (eqAK K hr.units) (pe_slice (sltAK K) (pv 9) po_none (po_some pe_int)) (pe_slice (sltAK K) (pv 7) po_none (po_some pe_int)) (nomark _)))) (fun _ _ _ _ _ => (pv 9))) pa_nil)) pe_int (nomark _)))))))
 (pss_cons (ps_if (pt_not (pt_val (pe_fc (ok_l_same T 5) pass0 (hr.mono (by omega)) (pa_cons (pe_pr (ok_PlainBook_deterministic T) T.pb.cl pass0 (hr.mono (by omega)) (pv 0)) (pa_cons (pv 6) pa_nil)))))
 (pss_one (ps_ret pe_bl))
 pss_nil)
 (pss_cons (ps_for PassesOwn.never rfl (piLK K (pv 2)) (pg_name (i := 8) sc_l_keeps.nd rfl (Or.inl rfl))
 (pss_one (ps_if (pt_not (pt_val (pe_fc (ok_l_options_hold T) pass0 (hr.mono (by omega)) (pa_cons (pv 0) (pa_cons (pv 5) (pa_cons (pv 8) pa_nil))))))
 (pss_one (ps_ret pe_bl))
 pss_nil)))
 (pss_one (ps_ret pe_bl)))))))), ?_⟩
  obtain ⟨p, o, st, fi, Z, cs, v2, v3, ks, rfl, pb, zl, h2, h3, pre, k⟩ := h
  have hs : Hs K ⟨H, [], Z⟩ Z H [] [([v3], [.list (ks.map eK)]), ([v2], [eBk st fi cs])] := ((Hs.start (fun _ z => by cases z) zl).fact1 h2).fact1 h3
  have lc : (cs.map eCh).length = cs.length := List.length_map _
  have lk : (ks.map eK).length = ks.length := List.length_map _
  have hcl := pre.1
  have dA : (PyData.tuple [.int st, .int fi, .tuple (cs.map eCh)]).depth < 5 ∧ wid (PyData.tuple [.int st, .int fi, .tuple (cs.map eCh)]) ≤ 100000 := by
    have h1 := dep_map eCh 1 (fun x => Nat.le_refl _) cs
    have h2 := wid_map eCh 10 (fun x => by show (5 : Nat) ≤ 10; decide) cs
    refine ⟨?_, ?_⟩
    · show max 0 (max 0 (max (PyData.depthAll _ + 1) 0)) + 1 < 5
      omega
    · show max 3 (max 0 (max 0 (max (max _ _) 0))) ≤ _
      rw [lc]
      omega
  have dB : ∀ b, (PyData.bool b).depth < 5 ∧ wid (PyData.bool b) ≤ 100000 := fun b => ⟨by show 0 < 5; decide, Nat.zero_le _⟩
  tm_at "go"
  rename_i x2 xs2 hq2 hs2
  obtain ⟨dx, c, sd, hp, hc, hd, gs⟩ := id pb
  have hs3 := hs2.fact1 (show Dt K Z H c (.tuple (cs.map eCh)) from hc.zs (fun _ z => by cases z))
  refine fld_of T.pb.cl T.pb.n1 hp pb_l1 ?_
  tm_at "run"
  refine fld_of T.pb.cl T.pb.n2 hp pb_l2 ?_
  tm_at "run"
  refine fld_of T.pb.cl T.pb.n3 hp pb_l3 ?_
  tm_at "run"
  rename_i H8 hs4
  have hs5 : Hs K ⟨H, [], Z⟩ Z H8 [] [([x2], [.list (cs.map eCh)]), ([v3], [.list (ks.map eK)])] := by tm_at "wk"
  refine l_dl (cs.map eCh) (fun m σ H' => ∃ (Z2 : List Addr) (u7 u8 u9 : Option V), σ = [some (.ref p), some v2, some v3, some (.int st), some (.int fi), some x2, some (.bl ((cs.take m).all fun c => decide ((cs.filter (fun d => sameK d c)).length = 1))), u7, u8, u9] ∧ Hs K ⟨H, [], Z⟩ Z2 H' [] [([x2], [.list (cs.map eCh)]), ([v3], [.list (ks.map eK)])]) ?_ ?_ ?_ ?_
  · exact ⟨Z, none, none, none, rfl, hs5⟩
  · rintro m σ H' hi ⟨Z2, u7, u8, u9, rfl, hs6⟩
    exact ⟨Z2, by tm_at "lr"⟩
  · rintro m d x σ H' hd hx ⟨Z2, u7, u8, u9, rfl, hs6⟩
    obtain ⟨c, hc, rfl⟩ := at_map hd
    have hs7 := hs6.fact1 (hx Z2 (by tm_at "lr"))
    have sm := single_more hc
    generalize eb : ((cs.take m).all fun c => decide ((cs.filter (fun d => sameK d c)).length = 1)) = b at *
    have hm2 : m < 100000 := by have := (List.getElem?_eq_some_iff.mp hc).1; omega
    tm_at "run"
    · rename_i hb
      subst hb
      refine h_lcL (cs.map eCh) (fun i acc => acc.length = ((cs.take i).filter (fun d => sameK d c)).length) hs7 (fun D acc Z' H' h => by tm_at "lr") rfl (fun D i2 d x2 acc2 Z4 H10 hd2 hr2 hacc2 hz2 hs10 => ?_) (fun D acc2 Z4 H10 hr2 hacc2 hz2 hs10 => ?_)
      · obtain ⟨e, he, rfl⟩ := at_map hd2
        have hi2 : i2 < 100000 := by have := (List.getElem?_eq_some_iff.mp he).1; omega
        tm_at "run"
        · rename_i hb
          rw [eqv_key] at hb
          have hb : sameK e c = true := hb
          show _ = _
          rw [List.length_append, filt_more he, hr2, if_pos hb]
          rfl
        · rename_i hb
          rw [eqv_key] at hb
          show _ = _
          have hb : sameK e c = false := hb
          rw [filt_more he, hr2, if_neg (by simp [hb])]
          rfl
      · rw [lc, List.take_length] at hr2
        have e2 : ((cs.take (m + 1)).all fun c => decide ((cs.filter (fun d => sameK d c)).length = 1)) = decide (((acc2.length : Nat) : Int) = 1) := by
          rw [sm, Bool.true_and, ← hr2, Bool.eq_iff_iff, decide_eq_true_iff, decide_eq_true_iff]
          omega
        rw [e2]
        tm_at "run"
        exact ⟨_, _, _, _, rfl, by tm_at "wk"⟩
    · rename_i hb
      subst hb
      rw [sm, Bool.false_and]
      exact ⟨_, _, _, _, rfl, hs6⟩
  · rintro σ H' ⟨Z2, u7, u8, u9, rfl, hs6⟩
    rw [lc, List.take_length, show (cs.all fun c => decide ((cs.filter (fun d => sameK d c)).length = 1)) = single cs from rfl]
    have dB := dB (single cs)
    tm_at "run"
    refine pr_pb (pb.kp0 hs6.kp) pre fun H9 k9 => ?_
    have hs7 := hs6.same k9
    tm_at "run"
    rename_i H10 hs10
    refine l_dl (ks.map eK) (fun m σ H' => ∃ (w : Bool) (u7 u8 u9 : Option V), σ = [some (.ref p), some v2, some v3, some (.int st), some (.int fi), some x2, some (.bl w), u7, u8, u9] ∧ Hs K ⟨H, [], Z⟩ Z2 H' [] [([x2], [.list (cs.map eCh)]), ([v3], [.list (ks.map eK)])]) ?_ ?_ ?_ ?_
    · exact ⟨_, _, _, _, rfl, hs10⟩
    · rintro m σ H' hi ⟨w, u7, u8, u9, rfl, hs6⟩
      exact ⟨Z2, by tm_at "lr"⟩
    · rintro m d x σ H' hd hx ⟨w, u7, u8, u9, rfl, hs6⟩
      obtain ⟨⟨n, i, j⟩, hc, rfl⟩ := at_map hd
      have hs7 := hs6.fact1 (hx Z2 (by tm_at "lr"))
      tm_at "run"
      refine ⟨p, o, st, fi, Z2, cs, x2, x, n, i, j, rfl, pb.kp0 hs7.kp, hs7.zl, by tm_at "dt", by tm_at "dt", pre, fun H11 k11 => ?_⟩
      have hs8 := hs6.same k11
      tm_at "run"
      exact ⟨_, _, _, _, rfl, hs8⟩
    · rintro σ H' ⟨w, u7, u8, u9, rfl, hs6⟩
      tm_at "run"
      exact k _ hs6.kp
theorem ok_l_book_holds (T : Txt K mg CPlainBook COddsError CBadShare CBadText CBadBook CBadMove CBadProgram CBadPlan CUnfit CTooLarge CBadEdit) : Fc P w K mg base CX0 10 "_law_book_holds" ["book", "how"] (spHolds K) := by
  refine fc_of T.d_l_book_holds sc_l_book_holds (fun vs H Q E h => by obtain ⟨st, fi, how, Z, cs, v, rfl, zl, hv, pre, hw, k⟩ := h; rfl) (fun _ _ _ _ _ _ us hl => match us, hl with | [_, _], _ => rfl) fun f cdv A outer s H vs Q E hr h => ⟨_, (pss_cons (ps_asg (pv 0) (pgTK K 3 (by rfl) (pgs_cons (pg_name (i := 2) sc_l_book_holds.nd rfl (Or.inl rfl)) (pgs_cons (pg_name (i := 3) sc_l_book_holds.nd rfl (Or.inl rfl)) (pgs_cons (pg_name (i := 4) sc_l_book_holds.nd rfl (Or.inl rfl)) pgs_nil)))))
 (pss_cons (ps_set (i := 5) sc_l_book_holds.nd rfl (Or.inl rfl) (pe_fc (ok_l_handed T) pass0 (hr.mono (by omega)) (pa_cons (pv 4) (pa_cons (pv 1) pa_nil))))
 (pss_cons (ps_if (pt_not (pt_val (pe_fc (ok_l_is_book T) pass0 (hr.mono (by omega)) (pa_cons (pv 0) pa_nil))))
 (pss_one (ps_ret (pe_and (pe_fc (ok_l_refused T) pass0 (hr.mono (by omega)) (pa_cons (pv 2) (pa_cons (pv 3) (pa_cons (pv 5) pa_nil)))) (pe_one (pe_cmpR (eqAK K hr.units) (pv 5) (pe_fc (ok_l_handed T) pass0 (hr.mono (by omega)) (pa_cons (pv 4) (pa_cons (pv 1) pa_nil))) (nomark _))))))
 pss_nil)
 (pss_cons (ps_set (i := 6) sc_l_book_holds.nd rfl (Or.inl rfl) (pe_pb (ok_PlainBook T) (passAll passL) (hr.mono (by omega)) (pa_cons (pv 2) (pa_cons (pv 3) (pa_cons (pv 5) pa_nil)))))
 (pss_cons (ps_if (PW.pt (pw_or (pt_cmpR (neAK K hr.units) (pv 5) (pe_fc (ok_l_handed T) pass0 (hr.mono (by omega)) (pa_cons (pv 4) (pa_cons (pv 1) pa_nil))) (nomark _)) (pw_or1 (pt_not (pt_val (pe_fc (ok_l_keeps T) pass0 (hr.mono (by omega)) (pa_cons (pv 6) (pa_cons (pv 0) (pa_cons (pe_fc (ok_l_keys T) pass0 (hr.mono (by omega)) (pa_cons (pv 4) pa_nil)) pa_nil)))))))))
 (pss_one (ps_ret pe_bl))
 pss_nil)
 (pss_cons (ps_expr (pe_fc (ok_l_spoil T) pass0 (hr.mono (by omega)) (pa_cons (pv 5) (pa_cons (pv 1) pa_nil))))
 (pss_one (ps_ret (pe_fc (ok_l_keeps T) pass0 (hr.mono (by omega)) (pa_cons (pv 6) (pa_cons (pv 0) (pa_cons (pe_lc (own := [("c", 7)]) (g := (gName 7)) (tt := tYes) rfl sc_l_book_holds.nd (piLK K (pv 4)) (blkOk_by (own := [("c", 7)]) (N := ["book", "how", "states", "first", "choices", "given", "told", "c"]) (sc := defScope s_l_book_holds) (by decide +kernel)) (fun _ _ _ _ _ => (pg_name (i := 7) sc_l_book_holds.nd rfl (Or.inl rfl))) (fun _ _ _ _ _ => pts_nil) (fun _ _ _ _ _ => (pe_slice (sltAK K) (pv 7) po_none (po_some pe_int)))) pa_nil)))))))))))), ?_⟩
  obtain ⟨st, fi, how, Z, cs, v, rfl, zl, hv, pre, hw, k⟩ := h
  have hs : Hs K ⟨H, [], Z⟩ Z H [] [([v], [eBk st fi cs])] := (Hs.start (fun _ z => by cases z) zl).fact1 hv
  tm_at "go"
  rename_i x2 xs2 hq2 hs2
  have hx2 : Dt K Z H x2 (.list (cs.map eCh)) := by tm_at "dt"
  refine ⟨Z, cs, how, _, rfl, hx2, pre, fun g H1 Zr0 k1 zn0 za0 dg0 => ?_⟩
  have dg := dt_lstZ _ _ dg0
  have zn : ∀ z ∈ lstZ H1 Zr0, H z = none := fun z h => zn0 z (lstZ_mem.mp h).1
  have za : ∀ z ∈ lstZ H1 Zr0, ∃ o, H1 z = some o := fun z h => za0 z (lstZ_mem.mp h).1
  have zL : ∀ z ∈ lstZ H1 Zr0, ∃ xs, H1 z = some (.lst xs) := fun z h => (lstZ_mem.mp h).2
  generalize lstZ H1 Zr0 = Zr at dg zn za zL
  clear dg0 zn0 za0 Zr0
  have lz : ∀ z ∈ Z, z ∉ Zr := fun z hz h => by
    obtain ⟨u, e⟩ := zl z hz
    rw [zn z h] at e; cases e
  have hv1 : Dt K Z H1 v (eBk st fi cs) := hv.im k1.im
  clear hs hs2
  have hs1 : Hs K ⟨H1, [], Zr ++ Z⟩ (Zr ++ Z) H1 [] [([g], [hand cs how]), ([x2], [.list (cs.map eCh)]), ([v], [eBk st fi cs])] := (((Hs.start (fun _ z => by cases z) (fun z hz => by
    rcases List.mem_append.mp hz with y | y
    · exact za z y
    · obtain ⟨u, e⟩ := zl z y
      exact ⟨u, k1.get0 e⟩)).fact1 (hv1.zs (fun _ z => List.mem_append_right _ z))).fact1 ((hx2.im k1.im).zs (fun _ z => List.mem_append_right _ z))).fact1 (dg.zs (fun _ z => List.mem_append_left _ z))
  have nbh : noB (hand cs how) = true := by
    unfold hand
    split
    · exact noBs_map eChL (fun _ => rfl) cs
    split
    · exact noBs_map eCh (fun _ => rfl) cs
    split
    · exact noBs_map eChL (fun _ => rfl) cs
    · exact noBs_map eCh (fun _ => rfl) cs
  have refl : PyData.eqv (hand cs how) (hand cs how) = true := (eqv_iff _ _ nbh nbh).mpr rfl
  have dh : (hand cs how).depth ≤ 3 := by
    have h1 := dep_map eCh 1 (fun x => Nat.le_refl _) cs
    have h2 := dep_map eChL 1 (fun x => Nat.le_refl _) cs
    unfold hand
    split
    · show PyData.depthAll _ + 1 ≤ 3
      omega
    split
    · show PyData.depthAll _ + 1 ≤ 3
      omega
    split
    · show PyData.depthAll _ + 1 ≤ 3
      omega
    · show PyData.depthAll _ + 1 ≤ 3
      omega
  tm_at "run"
  · rename_i H2 hs2 hb
    refine k_pb hs2.zl (show Dt K (Zr ++ Z) H2 g (hand cs how) from by tm_at "dt") pre (fun z => by rw [hb] at z; cases z) fun _ p o H3 np no k3 pb3 => ?_
    have hs3' := hs2.same k3
    have k13 : Kp [] H1 H3 := hs3'.kp
    have hs3 : Hs K ⟨H3, [], Zr ++ Z⟩ (Zr ++ Z) H3 [] [([g], [hand cs how]), ([x2], [.list (cs.map eCh)]), ([v], [eBk st fi cs])] := (((Hs.start (fun _ z => by cases z) hs3'.zl).fact1 (by tm_at "dt")).fact1 (by tm_at "dt")).fact1 (by tm_at "dt")
    clear hs3' hs2 hs1
    tm_at "run"
    refine ⟨Zr ++ Z, cs, how, x2, rfl, by tm_at "dt", pre, fun g2 H4 Zr2 k4 zn2 za2 dg2 => ?_⟩
    have hs4 := ((hs3.same k4).addZ hs3 (fun z hz => .inr (zn2 z hz)) za2).fact1 (dg2.zs (fun _ z => List.mem_append_left _ z))
    show rEqA K _ _ _ _ _
    refine h_ne (by tm_at "da") (by tm_at "da") (by omega) ?_
    rw [refl]
    tm_at "run"
    rename_i ks hks q Z5 H5 sub hs5
    have hF := hs5.freeze .here
    refine ⟨p, o, st, fi, q :: Z5, cs, v, .ref q, ks, rfl, pb3.kp0 hs5.kp, hF.zl, by tm_at "dt", by tm_at "dt", pre, fun H6 k6 => ?_⟩
    have hs6 := hs5.same k6
    clear hF
    tm_at "run"
    refine ⟨Zr, cs, how, g, rfl, dg.im (k13.trans hs6.kp).im, ⟨hw.1, pre⟩, fun H7 k7 => ?_⟩
    have kp7 : Kp [] H H7 := kp_fresh (((k1.trans k13).trans hs6.kp).of0.trans k7) zn
    have pb7 := (pb3.kp0 hs6.kp).kpN k7 (fun a ha => by obtain ⟨xs, e⟩ := zL a ha; exact ⟨xs, (k13.trans hs6.kp).get0 e⟩)
    have hs7 : Hs K ⟨H7, [], Z⟩ Z H7 [] [([x2], [.list (cs.map eCh)]), ([v], [eBk st fi cs])] := ((Hs.start (fun _ z => by cases z) (fun z hz => by
      obtain ⟨u, e⟩ := zl z hz
      exact ⟨u, kp7.get0 e⟩)).fact1 (hv.im kp7.im)).fact1 (hx2.im kp7.im)
    clear hs6 hs5 hs4 hs3
    have lc : (cs.map eCh).length = cs.length := List.length_map _
    have hcl := pre.1
    tm_at "run"
    refine h_lcL (cs.map eCh) (fun i acc => acc = ((cs.take i).map fun c => (c.nm, c.h, c.a)).map eK) hs7 (fun D acc Z' H' h => by tm_at "lr") rfl (fun D i2 d x2 acc Z3 H9 hd2 hr hacc hz hs9 => ?_) (fun D acc Z3 H9 hr hacc hz hs9 => ?_)
    · obtain ⟨c, he, rfl⟩ := at_map hd2
      have hi2 : i2 < 100000 := by have := (List.getElem?_eq_some_iff.mp he).1; omega
      tm_at "run"
      show _ = _
      rw [_root_.Fr.take_more he, map_snoc, map_snoc, hr]
    · rw [lc, List.take_length] at hr
      rw [hr] at hs9
      tm_at "run"
      have hF := hs9.freeze .here
      refine ⟨p, o, st, fi, D :: Z3, cs, v, .ref D, _, rfl, pb7.kp0 hs9.kp, hF.zl, by tm_at "dt", by tm_at "dt", pre, fun H10 k10 => ?_⟩
      exact k _ (kp7.trans (hs9.same k10).kp)
  · rename_i H2 hs2 hb
    refine ⟨Zr ++ Z, cs, how, st, fi, g, rfl, hs2.zl, by tm_at "dt", pre, hb, fun H3 k3 => ?_⟩
    have hs3 := hs2.same k3
    tm_at "run"
    refine ⟨Zr ++ Z, cs, how, x2, rfl, by tm_at "dt", pre, fun g2 H4 Zr2 k4 zn2 za2 dg2 => ?_⟩
    have hs4 := ((hs3.same k4).addZ hs3 (fun z hz => .inr (zn2 z hz)) za2).fact1 (dg2.zs (fun _ z => List.mem_append_left _ z))
    show rEqA K _ _ _ _ _
    refine h_eq (by tm_at "da") (by tm_at "da") (by omega) ?_
    rw [refl]
    tm_at "run"
    exact k _ (k1.trans hs4.kp)

end
end My
set_option Elab.async false
set_option linter.all false
set_option autoImplicit false
set_option maxRecDepth 100000
set_option maxHeartbeats 4000000
namespace My
open PySem PySem.Spec PyProof.Rows L2 U
local macro_rules | `(tactic| tm_at "step") => `(tactic| first | (with_reducible refine br_b ?_ ?_ <;> intro hb_) | fail)

/-! my own steps: rows of tactics, tried from above -/
local macro_rules | `(tactic| tm_at "lk") => `(tactic| first | with_reducible assumption | (with_reducible refine' Kp.get0 ?k1 ?k2; (case k1 => with_reducible assumption); (case k2 => tm_at "lk")) | (with_reducible refine' Kp.get1 ?k1 ?k3 ?k2; (case k1 => with_reducible assumption); (case k3 => tm_at "ne"); (case k2 => tm_at "lk")) | fail)
local macro_rules | `(tactic| tm_at "lp") => `(tactic| first | with_reducible assumption | (with_reducible refine' Pool.kp0 ?k1 ?k2; (case k1 => with_reducible assumption); (case k2 => tm_at "lp")) | (with_reducible refine' Pool.kp1 ?k1 ?k3 ?k2; (case k1 => with_reducible assumption); (case k3 => tm_at "ne"); (case k2 => tm_at "lp")) | fail)
local macro_rules | `(tactic| tm_at "ls") => `(tactic| first | with_reducible assumption | (with_reducible refine' Scr.kp0 ?k1 ?k2; (case k1 => with_reducible assumption); (case k2 => tm_at "ls")) | (with_reducible refine' Scr.kp1 ?k1 ?k3 ?k4 ?k2; (case k1 => with_reducible assumption); (case k3 => with_reducible assumption); (case k4 => tm_at "ls"); (case k2 => tm_at "ls")) | fail)
local macro_rules | `(tactic| tm_at "ne") => `(tactic| first | with_reducible assumption | (with_reducible refine' Ne.symm ?k1; with_reducible assumption) | (with_reducible refine' ne_new ?k1 ?k2; (case k1 => with_reducible assumption); (case k2 => tm_at "lk")) | (with_reducible refine' ne_new' ?k1 ?k2; (case k1 => with_reducible assumption); (case k2 => tm_at "lk")) | (with_reducible refine' Pool.ne ?k1 ?k2; (case k1 => with_reducible assumption); (case k2 => tm_at "lp")) | (with_reducible refine' Ne.symm (Pool.ne ?k1 ?k2); (case k1 => with_reducible assumption); (case k2 => tm_at "lp")) | fail)
local macro_rules | `(tactic| tm_at "kc") => `(tactic| first | with_reducible assumption | with_reducible exact Kp.refl | (with_reducible refine' Kp.trans ?k1 (Kp.of0 ?k2); (case k2 => with_reducible assumption); (case k1 => tm_at "kc")) | (with_reducible refine' Kp.trans ?k1 ?k2; (case k2 => with_reducible assumption); (case k1 => tm_at "kc")) | (with_reducible refine' Kp.low' ?k1 ?k2 ?k3 ?k4; (case k2 => with_reducible assumption); (case k3 => with_reducible assumption); (case k1 => tm_at "kc"); (case k4 => tm_at "kc")) | fail)
local macro_rules | `(tactic| tm_at "sq") => `(tactic| first | (with_reducible refine' sql ?k9; (case k9 => tm_at "lk")) | (with_reducible refine' Scr.sq ?k9; (case k9 => tm_at "ls")) | fail)
local macro_rules | `(tactic| tm_at "sqt") => `(tactic| first | (with_reducible refine' sqt ?k9; (case k9 => tm_at "lk")) | fail)
local macro_rules | `(tactic| tm_at "bt") => `(tactic| first | with_reducible assumption | (with_reducible refine' Bt.mul ?k1 ?k2; (case k1 => tm_at "bt"); (case k2 => tm_at "bt")) | (with_reducible refine' Bt.addM ?k1 ?k2; (case k1 => tm_at "bt"); (case k2 => tm_at "bt")) | (with_reducible refine' Bt.subM ?k1 ?k2; (case k1 => tm_at "bt"); (case k2 => tm_at "bt")) | (with_reducible refine' Bt.neg ?k1; (case k1 => tm_at "bt")) | fail)
local macro_rules | `(tactic| tm_at "bm") => `(tactic| first | with_reducible assumption | (with_reducible refine' Bt.mono ?k1 ?k2; (case k1 => with_reducible assumption); (case k2 => k_dflt decide)) | fail)
local macro_rules | `(tactic| tm_at "side") => `(tactic| first | with_reducible assumption | (with_reducible refine' Bt.cmul ?k1 ?k2 ?k3; (case k1 => tm_at "bt"); (case k2 => tm_at "bt"); (case k3 => k_dflt decide)) | (with_reducible refine cmul_of ?k1; (case k1 => omega)) | (with_reducible refine cpow_of ?k1; (case k1 => omega)) | (with_reducible refine cdivw_of ?k1; (case k1 => omega)) | (with_reducible refine cdivw_big ?k1; (case k1 => omega)) | (with_reducible refine cmulx_of ?k1; (case k1 => omega)) | omega | fail)
local macro_rules | `(tactic| tm_at "step") => `(tactic| first
  | with_reducible refine u_op ?_
  | (with_reducible refine' u_var ?k1 ?_; (case k1 => k_dflt rfl))
  | with_reducible refine u_c ?_
  | with_reducible refine u_I0 ?_
  | with_reducible refine u_seq ?_
  | with_reducible refine u_asg ?_
  | with_reducible refine g_name ?_
  | with_reducible refine u_cb ?_
  | with_reducible refine u_cons ?_
  | with_reducible refine u_nil ?_
  | (with_reducible refine' u_pow ?k1 ?k2 ?_; (case k1 => k_dflt (tm_at "side")); (case k2 => (conv => lhs; simp only [Int.reduceToNat, Int.reducePow]) <;> rfl))
  | (with_reducible refine' u_I ?k1 ?_; (case k1 => k_dflt (tm_at "side")))
  | with_reducible refine u_int1 ?_
  | with_reducible refine u_intB ?_
  | with_reducible refine u_if ?_
  | with_reducible refine u_test ?_
  | with_reducible refine u_tb ?_
  | with_reducible refine u_tB ?_
  | with_reducible refine u_eqI ?_
  | with_reducible refine u_neI ?_
  | with_reducible refine u_eqB ?_
  | with_reducible refine u_and ?_
  | with_reducible refine u_or ?_
  | with_reducible refine u_not ?_
  | with_reducible refine u_andV ?_
  | with_reducible refine u_orV ?_
  | with_reducible refine u_notV ?_
  | with_reducible refine br_t ?_
  | with_reducible refine br_f ?_
  | with_reducible refine br_nt ?_
  | with_reducible refine br_nf ?_
  | with_reducible refine br_n ?_
  | with_reducible refine u_ret ?_
  | with_reducible refine u_next ?_
  | with_reducible refine u_drop ?_
  | with_reducible refine u_un ?_
  | with_reducible refine u_U ?_
  | with_reducible refine u_call ?_
  | with_reducible refine u_fldN ?_
  | with_reducible refine g_sub ?_
  | with_reducible refine g_cons ?_
  | with_reducible refine g_nil ?_
  | with_reducible refine u_tpar ?_
  | (with_reducible refine u_absL ?_; intro m_ h1_ h2_)
  | (with_reducible refine u_maxL ?_; intro m_ h1_ h2_ h3_)
  | (with_reducible refine u_minL ?_; intro m_ h1_ h2_ h3_)
  | with_reducible refine u_gcd ?_
  | with_reducible refine u_isi_ii ?_
  | with_reducible refine u_isi_ib ?_
  | with_reducible refine u_isi_bb ?_
  | with_reducible refine u_tupN ?_
  | with_reducible refine u_lstN ?_
  | (with_reducible refine' u_ixL ?k1 ?k2 ?_; (case k1 => tm_at "sq"); (case k2 => first | with_reducible assumption | k_dflt rfl))
  | (with_reducible refine' u_ixT ?k1 ?k2 ?_; (case k1 => tm_at "sqt"); (case k2 => k_dflt rfl))
  | (with_reducible refine' g_tup ?k1 ?k2 ?_; (case k1 => tm_at "sqt"); (case k2 => k_dflt rfl))
  | (with_reducible refine' u_lenL ?k1 ?_; (case k1 => tm_at "sq"))
  | (with_reducible refine' u_lenT ?k1 ?_; (case k1 => tm_at "sqt"))
  | with_reducible refine u_for ?_
  | with_reducible refine u_iL ?_
  | with_reducible refine u_iT ?_
  | with_reducible refine u_r1 ?_
  | with_reducible refine u_r2 ?_
  | (with_reducible refine' u_iLq ?k1 ?_; (case k1 => tm_at "sq"))
  | (with_reducible refine' u_iTq ?k1 ?_; (case k1 => tm_at "sqt"))
  | (with_reducible refine' u_r1q ?k1 ?_; (case k1 => (constructor <;> omega)))
  | (with_reducible refine' u_r2q ?k1 ?_; (case k1 => (refine ⟨?_, ?_, ?_, ?_⟩ <;> omega)))
  | with_reducible refine u_lc ?_
  | with_reducible refine u_yes ?_
  | (with_reducible refine endQ ?k1 ?_; (case k1 => k_dflt rfl))
  | with_reducible refine u_meth ?_
  | with_reducible refine u_callS ?_
  | with_reducible refine u_bm ?_
  | (with_reducible refine' bm_list ?k1 ?_; (case k1 => tm_at "lk"))
  | (with_reducible refine' u_append ?k1 ?k2 ?_; (case k1 => tm_at "lk"); (case k2 => omega); intro H_ hk_ ho_)
  | (with_reducible refine' appE ?k1 ?k2 ?_; (case k1 => tm_at "lk"); (case k2 => omega); intro H_ hk_ ho_)
  | with_reducible refine u_sl ?_
  | with_reducible refine u_noPart ?_
  | with_reducible refine u_part ?_
  | with_reducible refine u_intq ?_
  | (with_reducible refine' u_slL ?k1 ?_; (case k1 => tm_at "sq"); intro p_ H_ hn_ hk_ ho_)
  | (with_reducible refine' n_tup ?k1 ?_; (case k1 => k_dflt (exact Nat.le_of_ble_eq_true rfl)); intro p_ H_ hn_ hk_ ho_)
  | (with_reducible refine' n_lst ?k1 ?_; (case k1 => k_dflt (exact Nat.le_of_ble_eq_true rfl)); intro p_ H_ hn_ hk_ ho_)
  | (with_reducible refine' s_list ?k1 ?k2 ?_; (case k1 => tm_at "lk"); (case k2 => k_dflt rfl); intro H_ hk_ ho_)
  | (with_reducible refine br_d ?_ ?_ <;> intro hc_) | fail)
local macro_rules | `(tactic| tm_at "run") => `(tactic| repeat' tm_at "step")
local macro_rules | `(tactic| tm_at "go") => `(tactic| ((try dsimp only [cxOf, Cx.nox, Cx.wish]); tm_at "run"))

/-! steps over Hs -/
local macro_rules | `(tactic| tm_at "mem") => `(tactic| first | with_reducible exact List.mem_cons_self | (with_reducible refine' List.mem_cons_of_mem _ ?k1; (case k1 => tm_at "mem")) | fail)
local macro_rules | `(tactic| tm_at "loc") => `(tactic| first | with_reducible exact Loc.here | (with_reducible refine' Loc.there ?k1; (case k1 => tm_at "loc")) | fail)
local macro_rules | `(tactic| tm_at "rem") => `(tactic| first | with_reducible exact Rem.here | (with_reducible refine' Rem.there ?k1; (case k1 => tm_at "rem")) | fail)
local macro_rules | `(tactic| tm_at "suf") => `(tactic| first | with_reducible exact Suf.refl | (with_reducible refine' Suf.keep ?k1; (case k1 => tm_at "suf")) | (with_reducible refine' Suf.cons ?k1; (case k1 => tm_at "suf")) | fail)
local macro_rules | `(tactic| tm_at "wk") => `(tactic| first | with_reducible assumption | (with_reducible refine' Hs.wk ?k1 ?k2 ?k3; (case k1 => with_reducible assumption); (case k2 => tm_at "suf"); (case k3 => tm_at "suf")) | fail)
local macro_rules | `(tactic| tm_at "dt") => `(tactic| first | with_reducible exact Dt.int _ | with_reducible exact Dt.str _ | with_reducible exact Dt.bl _ | with_reducible exact Dt.non | with_reducible assumption | (with_reducible refine' Hs.dt ?k1 ?k2; (case k1 => with_reducible assumption); (case k2 => tm_at "mem")) | (with_reducible refine' Hs.dtup ?k1 ?k2 ?k3; (case k1 => with_reducible assumption); (case k2 => tm_at "loc"); (case k3 => tm_at "dts")) | fail)
local macro_rules | `(tactic| tm_at "dts") => `(tactic| first | with_reducible exact Dts.nil | (with_reducible refine' Dts.cons ?k1 ?k2; (case k1 => tm_at "dt"); (case k2 => tm_at "dts")) | with_reducible assumption | (with_reducible refine' Hs.dts ?k1 ?k2; (case k1 => with_reducible assumption); (case k2 => tm_at "mem")) | fail)
local macro_rules | `(tactic| tm_at "da") => `(tactic| first | (with_reducible refine' Da.imm ?k1; (case k1 => tm_at "dt")) | (with_reducible refine' Hs.dlst ?k1 ?k2; (case k1 => with_reducible assumption); (case k2 => tm_at "loc")) | fail)
local macro_rules | `(tactic| tm_at "lr") => `(tactic| first | with_reducible assumption | (with_reducible refine' Hs.dlv ?k1 ?k2; (case k1 => with_reducible assumption); (case k2 => tm_at "loc")) | (with_reducible refine' Dt.dlv ?k1; (case k1 => tm_at "dt")) | fail)
local macro_rules | `(tactic| tm_at "zs") => `(tactic| first | with_reducible assumption | with_reducible exact List.Subset.refl _ | (with_reducible refine' List.Subset.trans ?k1 ?k2; (case k2 => with_reducible assumption); (case k1 => tm_at "zs")) | (with_reducible refine' List.Subset.trans ?k1 (List.subset_cons_self _ _); (case k1 => tm_at "zs")) | fail)
local macro_rules | `(tactic| tm_at "at") => `(tactic| first | with_reducible assumption | k_dflt rfl | fail)
local macro_rules | `(tactic| tm_at "dep") => `(tactic| first | with_reducible assumption | (with_reducible refine' Nat.le_trans (Nat.min_le_left _ _) ?k1; (case k1 => first | with_reducible assumption | exact Nat.le_of_ble_eq_true rfl)) | (with_reducible refine' Nat.le_trans (Nat.min_le_right _ _) ?k1; (case k1 => first | with_reducible assumption | exact Nat.le_of_ble_eq_true rfl)) | fail)
local macro_rules | `(tactic| tm_at "mono") => `(tactic| (intro φ ψ h s; repeat' (first | exact fun r1 r2 r3 r4 => h _ (s r1 r2 r3 r4) | exact fun r1 r2 r3 => h _ (s r1 r2 r3) | exact fun r1 r2 => h _ (s r1 r2) | exact fun r1 => h _ (s r1) | exact h _ s | (obtain ⟨x, s⟩ := s; refine ⟨x, ?_⟩))))
local macro_rules | `(tactic| tm_at "sz") => `(tactic| first | with_reducible assumption | omega | k_dflt (exact Nat.le_of_ble_eq_true rfl) | (simp only [List.length_map, List.length_append, List.length_cons, List.length_nil]; omega) | fail)
local macro_rules | `(tactic| tm_at "pre") => `(tactic| first | with_reducible assumption | trivial | omega | (refine ⟨?_, ?_⟩ <;> tm_at "pre") | fail)
local macro_rules | `(tactic| tm_at "step") => `(tactic| first
  | (with_reducible refine' h_ixTi ?k1 ?k2 ?_; (case k1 => tm_at "dt"); (case k2 => tm_at "at"))
  | (with_reducible refine' h_ixTs ?k1 ?k2 ?_; (case k1 => tm_at "dt"); (case k2 => tm_at "at"))
  | (with_reducible refine' h_ixTb ?k1 ?k2 ?_; (case k1 => tm_at "dt"); (case k2 => tm_at "at"))
  | (with_reducible refine' h_ixTn ?k1 ?k2 ?_; (case k1 => tm_at "dt"); (case k2 => tm_at "at"))
  | (with_reducible refine' h_ixT ?k0 ?k1 ?k2 ?_; (case k0 => with_reducible assumption); (case k1 => tm_at "dt"); (case k2 => tm_at "at"); intro x_ hd_ hs_)
  | (with_reducible refine' h_ixLi ?k0 ?k1 ?k2 ?_; (case k0 => with_reducible assumption); (case k1 => tm_at "lr"); (case k2 => tm_at "at"))
  | (with_reducible refine' h_ixLs ?k0 ?k1 ?k2 ?_; (case k0 => with_reducible assumption); (case k1 => tm_at "lr"); (case k2 => tm_at "at"))
  | (with_reducible refine' h_ixLb ?k0 ?k1 ?k2 ?_; (case k0 => with_reducible assumption); (case k1 => tm_at "lr"); (case k2 => tm_at "at"))
  | (with_reducible refine' h_ixL ?k0 ?k1 ?k2 ?_; (case k0 => with_reducible assumption); (case k1 => tm_at "lr"); (case k2 => tm_at "at"); intro x_ hd_ hs_)
  | (with_reducible refine' h_gtup ?k1 ?k2 ?_; (case k1 => tm_at "dt"); (case k2 => k_dflt rfl); intro xs_ hq_)
  | (with_reducible refine' h_gci ?k1 ?_; (case k1 => with_reducible assumption); intro xs_ hq_)
  | (with_reducible refine' h_gcs ?k1 ?_; (case k1 => with_reducible assumption); intro xs_ hq_)
  | (with_reducible refine' h_gcb ?k1 ?_; (case k1 => with_reducible assumption); intro xs_ hq_)
  | (with_reducible refine' h_gcn ?k1 ?_; (case k1 => with_reducible assumption); intro xs_ hq_)
  | (with_reducible refine' h_gc ?k0 ?k1 ?_; (case k0 => with_reducible assumption); (case k1 => with_reducible assumption); intro x_ xs_ hq_ hs_)
  | (with_reducible refine' h_gn ?k1 ?_; (case k1 => with_reducible assumption))
  | (with_reducible refine' h_lenL ?k1 ?_; (case k1 => tm_at "lr"))
  | (with_reducible refine' h_lenT ?k1 ?_; (case k1 => tm_at "dt"))
  | (with_reducible refine' h_tup ?k0 ?k1 ?k2 ?_; (case k0 => with_reducible assumption); (case k1 => k_dflt (exact Nat.le_of_ble_eq_true rfl)); (case k2 => tm_at "dts"); intro p_ H_ hs_)
  | (with_reducible refine' h_lst ?k0 ?k1 ?k2 ?_; (case k0 => with_reducible assumption); (case k1 => k_dflt (exact Nat.le_of_ble_eq_true rfl)); (case k2 => tm_at "dts"); intro p_ H_ hs_)
  | (with_reducible refine' h_tupO ?k0 ?k1 ?_; (case k0 => with_reducible assumption); (case k1 => k_dflt (exact Nat.le_of_ble_eq_true rfl)); intro p_ H_ hs_)
  | (with_reducible refine' h_lstO ?k0 ?k1 ?_; (case k0 => with_reducible assumption); (case k1 => k_dflt (exact Nat.le_of_ble_eq_true rfl)); intro p_ H_ hs_)
  | fail)
local macro_rules | `(tactic| tm_at "step") => `(tactic| first
  | (with_reducible refine' h_bmL ?k0 ?k1 ?_; (case k0 => with_reducible assumption); (case k1 => tm_at "loc"))
  | (with_reducible refine' h_app ?k0 ?k1 ?k2 ?k3 ?_; (case k0 => with_reducible assumption); (case k1 => tm_at "loc"); (case k2 => tm_at "dt"); (case k3 => tm_at "sz"); intro H_ hs_)
  | (with_reducible refine' h_setL ?k0 ?k1 ?k2 ?k3 ?_; (case k0 => with_reducible assumption); (case k1 => tm_at "loc"); (case k2 => tm_at "dt"); (case k3 => tm_at "at"); intro H_ hs_)
  | (with_reducible refine' h_slL ?k0 ?k1 ?_; (case k0 => with_reducible assumption); (case k1 => tm_at "lr"); intro p_ H_ hs_)
  | (with_reducible refine' h_sl3 ?k0 ?k1 ?_; (case k0 => with_reducible assumption); (case k1 => tm_at "dt"); intro p_ H_ hs_)
  | (with_reducible refine' h_slf1 ?k0 ?k1 ?_; (case k0 => with_reducible assumption); (case k1 => tm_at "dt"); intro p_ H_ hs_)
  | (with_reducible refine' h_slT ?k0 ?k1 ?_; (case k0 => with_reducible assumption); (case k1 => tm_at "dt"); intro p_ H_ hs_)
  | (with_reducible refine' h_catLe ?k0 ?k1 ?k2 ?k3 ?k4 ?_; (case k0 => with_reducible assumption); (case k1 => tm_at "lr"); (case k2 => tm_at "lr"); (case k3 => tm_at "sz"); (case k4 => ((try simp only [List.cons_append, List.nil_append]); k_dflt rfl)); intro p_ H_ hs_)
  | (with_reducible refine' h_catTe ?k0 ?k1 ?k2 ?k3 ?k4 ?_; (case k0 => with_reducible assumption); (case k1 => tm_at "dt"); (case k2 => tm_at "dt"); (case k3 => tm_at "sz"); (case k4 => ((try simp only [List.cons_append, List.nil_append]); k_dflt rfl)); intro p_ H_ hs_)
  | (with_reducible refine' h_extL ?k0 ?k1 ?k2 ?k3 ?_; (case k0 => with_reducible assumption); (case k1 => tm_at "loc"); (case k2 => tm_at "lr"); (case k3 => tm_at "sz"); intro H_ hs_)
  | (with_reducible refine' h_tupOfL ?k0 ?k1 ?_; (case k0 => with_reducible assumption); (case k1 => tm_at "lr"); intro p_ H_ hs_)
  | (with_reducible refine' h_tupOfT ?k1 ?_; (case k1 => tm_at "dt"))
  | (with_reducible refine' h_listOfL ?k0 ?k1 ?_; (case k0 => with_reducible assumption); (case k1 => tm_at "lr"); intro p_ H_ hs_)
  | (with_reducible refine' h_listOfT ?k0 ?k1 ?_; (case k0 => with_reducible assumption); (case k1 => tm_at "dt"); intro p_ H_ hs_)
  | (with_reducible refine' h_eq ?k1 ?k2 ?k3 ?_; (case k1 => tm_at "da"); (case k2 => tm_at "da"); (case k3 => tm_at "dep"))
  | (with_reducible refine' h_ne ?k1 ?k2 ?k3 ?_; (case k1 => tm_at "da"); (case k2 => tm_at "da"); (case k3 => tm_at "dep"))
  | (with_reducible refine' h_inL ?k1 ?k2 ?k3 ?_; (case k1 => tm_at "dt"); (case k2 => tm_at "da"); (case k3 => tm_at "dep"))
  | (with_reducible refine' h_niL ?k1 ?k2 ?k3 ?_; (case k1 => tm_at "dt"); (case k2 => tm_at "da"); (case k3 => tm_at "dep"))
  | (with_reducible refine' h_inT ?k1 ?k2 ?k3 ?_; (case k1 => tm_at "dt"); (case k2 => tm_at "dt"); (case k3 => tm_at "dep"))
  | (with_reducible refine' h_niT ?k1 ?k2 ?k3 ?_; (case k1 => tm_at "dt"); (case k2 => tm_at "dt"); (case k3 => tm_at "dep"))
  | with_reducible refine u_chain ?_
  | (with_reducible refine' h_min4 ?k1 ?_; (case k1 => tm_at "dt"); intro m_ h1_ h2_ h3_ h4_ h5_)
  | (with_reducible refine' h_iL ?k1 ?_; (case k1 => tm_at "lr"))
  | (with_reducible refine' h_iT ?k1 ?_; (case k1 => tm_at "dt"))
  | (with_reducible refine' lcE ?k1 ?k2 ?k3 ?k4 ?k5 ?_; (case k1 => tm_at "wk"); (case k2 => tm_at "zs"); (case k3 => omega); (case k4 => omega); (case k5 => tm_at "dt"))
  | (with_reducible refine' lcS ?k1 ?k2 ?k3 ?_; (case k1 => tm_at "wk"); (case k2 => tm_at "zs"); (case k3 => omega))
  | with_reducible refine u_iA ?_
  | (with_reducible refine' f_repG ?k1 ?k2 ?k3 ?_; (case k1 => omega); (case k2 => omega); (case k3 => omega); intro z_ hz_)
  | (with_reducible refine' k_vA ?k0 ?k1 ?k2 ?_; (case k0 => with_reducible assumption); (case k1 => tm_at "dts"); (case k2 => tm_at "mono"))
  | (with_reducible refine' k_wA ?k0 ?k1 ?k2 ?k3 ?_; (case k0 => with_reducible assumption); (case k1 => tm_at "loc"); (case k2 => tm_at "dts"); (case k3 => tm_at "mono"))
  | (with_reducible refine' k_vlA ?k0 ?k1 ?k2 ?_; (case k0 => with_reducible assumption); (case k1 => tm_at "dts"); (case k2 => tm_at "mono"))
  | (with_reducible refine' k_wlA ?k0 ?k1 ?k2 ?k3 ?_; (case k0 => with_reducible assumption); (case k1 => tm_at "loc"); (case k2 => tm_at "dts"); (case k3 => tm_at "mono"))
  | (with_reducible refine ret_int ?_; intro H_ hs_)
  | (with_reducible refine ret_str ?_; intro H_ hs_)
  | (with_reducible refine ret_bl ?_; intro H_ hs_)
  | (with_reducible refine ret_non ?_; intro H_ hs_)
  | (with_reducible refine ret_any ?_; intro v_ Z_ H_ hz_ hs_)
  | (with_reducible refine retL ?_; intro p_ Z_ H_ hz_ hs_)
  | fail)
local macro_rules | `(tactic| tm_at "step") => `(tactic| first
  | with_reducible refine u_isNi ?_
  | with_reducible refine u_isNb ?_
  | with_reducible refine u_isNs ?_
  | with_reducible refine u_isi (.base (.str _)) kB_sb ?_
  | with_reducible refine u_isi (.base (.str _)) kB_ss ?_
  | with_reducible refine u_isi (.base (.str _)) kB_si ?_
  | with_reducible refine u_isi (.base (.bl _)) kB_bs ?_
  | with_reducible refine u_isi (.base (.bl _)) kB_bi ?_
  | with_reducible refine u_isi (.base (.int _)) kB_is ?_
  | (with_reducible refine' u_isi (ty_tup ?k1) kB_tt ?_; (case k1 => tm_at "dt"))
  | (with_reducible refine' u_isi (ty_tup ?k1) kB_tl ?_; (case k1 => tm_at "dt"))
  | (with_reducible refine' u_isi (ty_tup ?k1) kB_tb ?_; (case k1 => tm_at "dt"))
  | (with_reducible refine' u_isi (ty_tup ?k1) kB_ts ?_; (case k1 => tm_at "dt"))
  | (with_reducible refine' u_isi (ty_tup ?k1) kB_ti ?_; (case k1 => tm_at "dt"))
  | (with_reducible refine' u_isi (ty_lst ?k1) kB_lt ?_; (case k1 => tm_at "lr"))
  | (with_reducible refine' u_isi (ty_lst ?k1) kB_ll ?_; (case k1 => tm_at "lr"))
  | (with_reducible refine' u_isi (ty_lst ?k1) kB_lb ?_; (case k1 => tm_at "lr"))
  | (with_reducible refine' u_isi (ty_lst ?k1) kB_ls ?_; (case k1 => tm_at "lr"))
  | (with_reducible refine' u_isi (ty_lst ?k1) kB_li ?_; (case k1 => tm_at "lr"))
  | fail)
local macro_rules | `(tactic| tm_at "anyi") => `(tactic| (intro d hd; simp only [List.mem_cons, List.not_mem_nil, or_false] at hd; repeat' (rcases hd with rfl | hd); all_goals (first | exact ⟨_, rfl⟩ | (subst hd; exact ⟨_, rfl⟩))))
local macro_rules | `(tactic| tm_at "len") => `(tactic| (simp only [List.length_cons, List.length_nil, List.length_map, List.length_append]; omega))
local macro_rules | `(tactic| tm_at "step") => `(tactic| first
  | with_reducible refine u_dget2 ?_
  | with_reducible refine u_dput ?_
  | (with_reducible refine' h_dnewT ?k0 ?_; (case k0 => with_reducible assumption); intro p_ H_ hs_)
  | (with_reducible refine' h_dgA ?k0 ?k1 ?_; (case k0 => with_reducible assumption); (case k1 => tm_at "loc"))
  | fail)
local macro_rules | `(tactic| tm_at "finv") => `(tactic| (with_reducible refine' fin_v ?k1 ?k2 ?_; (case k1 => with_reducible assumption); (case k2 => tm_at "dt")))
local macro_rules | `(tactic| tm_at "finw") => `(tactic| (with_reducible refine' fin_w ?k1 ?k2 ?k3 ?_; (case k1 => with_reducible assumption); (case k2 => tm_at "loc"); (case k3 => tm_at "dt")))
local macro_rules | `(tactic| tm_at "finvl") => `(tactic| (with_reducible refine' fin_vl ?k1 ?k2 ?_; (case k1 => with_reducible assumption); (case k2 => tm_at "loc")))

local macro_rules | `(tactic| tm_at "step") => `(tactic| first | (with_reducible refine' k_draw ?k1 ?k2 ?_; (case k1 => tm_at "lp"); (case k2 => k_dflt omega); intro r_ H_ h0_ h1_ hk_ hp_) | fail)
local macro_rules | `(tactic| tm_at "step") => `(tactic| first | with_reducible refine k_int ?_ | fail)
local macro_rules | `(tactic| tm_at "step") => `(tactic| first | (with_reducible refine' k_pool ?k1 ?k2 ?_; (case k1 => tm_at "ls"); (case k2 => k_dflt (tm_at "side")); intro p_ H_ hn_ hk_ hp_) | fail)
local macro_rules | `(tactic| tm_at "step") => `(tactic| first | (with_reducible refine' h_draw ?k0 ?k1 ?k2 ?_; (case k0 => with_reducible assumption); (case k1 => tm_at "loc"); (case k2 => k_dflt omega); intro r_ H_ h0_ h1_ hs_) | fail)
local macro_rules | `(tactic| tm_at "ln") => `(tactic| first | with_reducible assumption | omega | (simp only [SX.S_len, Str.length_append]; omega) | fail)
local macro_rules | `(tactic| tm_at "lg") => `(tactic| first | with_reducible assumption | (with_reducible refine' bt_log ?k1; (case k1 => tm_at "bm")) | fail)
local macro_rules | `(tactic| tm_at "step") => `(tactic| first
  | with_reducible refine u_eqS ?_
  | with_reducible refine u_neS ?_
  | with_reducible refine bm_str ?_
  | with_reducible refine u_bm0 ?_
  | with_reducible refine u_find ?_
  | with_reducible refine u_asc ?_
  | with_reducible refine u_dgt ?_
  | with_reducible refine u_inS ?_
  | with_reducible refine u_niS ?_
  | with_reducible refine u_isNn ?_
  | with_reducible refine u_isNr ?_
  | (with_reducible refine' u_partS ?k1 ?k2 ?_; (case k1 => k_dflt rfl); (case k2 => tm_at "ln"); intro p_ H_ hn_ hk_ ho_)
  | (with_reducible refine' u_rmp ?k1 ?_; (case k1 => tm_at "ln"))
  | (with_reducible refine' u_addS ?k1 ?_; (case k1 => tm_at "ln"))
  | (with_reducible refine' u_lenS ?k1 ?_; (case k1 => tm_at "ln"))
  | (with_reducible refine' u_strI ?k1 ?_; (case k1 => tm_at "lg"))
  | (with_reducible refine' u_slX ?k1 ?_; (case k1 => tm_at "ln"))
  | with_reducible refine u_iS ?_
  | with_reducible refine u_iSq ?_
  | with_reducible refine u_join ?_
  | with_reducible refine js_cons ?_
  | with_reducible refine js_nil ?_
  | (with_reducible refine' jsQ ?k1 ?_; (case k1 => tm_at "ln"))
  | with_reducible refine u_fmt ?_
  | (with_reducible refine' fmtI ?k1 ?_; (case k1 => tm_at "lg"))
  | fail)

local macro_rules | `(tactic| tm_at "step") => `(tactic| first | (with_reducible refine' sp_is_name ?k1 ?_; (case k1 => tm_at "pre")) | fail)
local macro_rules | `(tactic| tm_at "step") => `(tactic| first | (with_reducible refine' sp_l_is_name ?k1 ?_; (case k1 => tm_at "pre")) | fail)
local macro_rules | `(tactic| tm_at "step") => `(tactic| first | (with_reducible refine sp_l_name ?_; intro z_ hr_) | fail)
local macro_rules | `(tactic| tm_at "step") => `(tactic| first | (with_reducible refine sp_l_names ?_; intro zs_ hr_) | fail)
local macro_rules | `(tactic| tm_at "step") => `(tactic| first | (with_reducible refine' sp_l_odd_name ?k1 ?_; (case k1 => tm_at "pre"); intro z_ hr_) | fail)
local macro_rules | `(tactic| tm_at "step") => `(tactic| first | (with_reducible refine sp_l_book ?_; intro s_ f_ cs_ hr_) | fail)
local macro_rules | `(tactic| tm_at "step") => `(tactic| first | (with_reducible refine' sp_l_more_options ?k1 ?_; (case k1 => tm_at "pre"); intro cs2_ hr_) | fail)
local macro_rules | `(tactic| tm_at "step") => `(tactic| first | (with_reducible refine' sp_l_bent ?k1 ?_; (case k1 => tm_at "pre"); intro s2_ f2_ cs2_ hr_) | fail)
local macro_rules | `(tactic| tm_at "step") => `(tactic| first | (with_reducible refine' sp_l_is_book ?k1 ?_; (case k1 => tm_at "pre")) | fail)
local macro_rules | `(tactic| tm_at "step") => `(tactic| first | (with_reducible refine' sp_l_keys ?k1 ?_; (case k1 => tm_at "pre"); intro ks_ hr_) | fail)
def spLaw (K : PySem.W.Frag) : Sp := fun vs H Q _ => ∃ (a : Addr) (ns : List Int), vs = [.ref a] ∧ Scr K H a ns ∧ ∀ H', Q (.bl true) H'

section
variable {P : Program} {w : World} {K : PySem.W.Frag} {mg : Str → Option Value} {base : Heap} {CPlainBook COddsError CBadShare CBadText CBadBook CBadMove CBadProgram CBadPlan CUnfit CTooLarge CBadEdit : Addr}
theorem ok_law (T : Txt K mg CPlainBook COddsError CBadShare CBadText CBadBook CBadMove CBadProgram CBadPlan CUnfit CTooLarge CBadEdit) {f0 : Addr} {fd : FuncData} (F : Fun K "law" "law" s_law f0 fd) : FnOk P w K mg base CX0 11 f0 fd ["script"] (spLaw K) := by
  refine F.ok sc_law (fun vs H Q E h => by obtain ⟨a, ns, rfl, hscr, k⟩ := h; rfl) fun cdv A outer s H vs Q E hr h => ⟨_, (pss_cons (ps_set (i := 1) sc_law.nd rfl (Or.inl rfl) (pe_fc (ok_l_book T) pass0 (hr.mono (by omega)) (pa_cons (pe_fc (ok_l_stirred T) pass0 (hr.mono (by omega)) (pa_cons (pv 0) (pa_cons pe_int pa_nil))) pa_nil)))
 (pss_cons (ps_set (i := 2) sc_law.nd rfl (Or.inl rfl) (pe_fc (ok_l_stirred T) pass0 (hr.mono (by omega)) (pa_cons (pv 0) (pa_cons pe_int pa_nil))))
 (pss_cons (ps_set (i := 3) sc_law.nd rfl (Or.inl rfl) (pe_fc (ok_l_bent T) pass0 (hr.mono (by omega)) (pa_cons (pv 2) (pa_cons (pv 1) pa_nil))))
 (pss_cons (ps_set (i := 4) sc_law.nd rfl (Or.inl rfl) (pe_fc (ok_l_draw T) pass0 (hr.mono (by omega)) (pa_cons (pv 2) (pa_cons pe_int pa_nil))))
 (pss_cons (ps_if (PW.pt (pw_or (pt_not (pt_val (pe_fc (ok_l_book_holds T) pass0 (hr.mono (by omega)) (pa_cons (pv 3) (pa_cons (pv 4) pa_nil))))) (pw_or1 (pt_not (pt_val (pe_fc (ok_l_book_holds T) pass0 (hr.mono (by omega)) (pa_cons (pv 1) (pa_cons (pe_op op_sub pe_int (pv 4)) pa_nil))))))))
 (pss_one (ps_ret pe_bl))
 pss_nil)
 (pss_one (ps_ret (pe_or (pe_fc (ok_l_is_book T) pass0 (hr.mono (by omega)) (pa_cons (pv 3) pa_nil)) (pe_one (pe_fc (ok_l_book_holds T) pass0 (hr.mono (by omega)) (pa_cons (pv 3) (pa_cons (pe_op op_mod (pe_callTy c_int1 (by rfl) T.n_int b_int (pa_cons (pe_op op_add (pv 4) pe_int) pa_nil)) pe_int) pa_nil)))))))))))), ?_⟩
  obtain ⟨a, ns, rfl, hscr, k⟩ := h
  have hs : Hs K ⟨H, [], []⟩ [] H [] [] := Hs.start (fun _ z => by cases z) (fun _ z => by cases z)
  tm_at "go"
  rename_i p1 H1 hn1 hk1 hp1
  have hs1 := hs.newPool hk1 hn1 hp1
  tm_at "run"
  rename_i st fi cs hcs v Z2 H2 hz2 hs2
  have hscr2 := Scr.kp0 hs2.kp hscr
  tm_at "run"
  rename_i p2 H3 hn3 hk3 hp3
  have hs3 := hs2.newPool hk3 hn3 hp3
  clear hs hs1
  tm_at "run"
  rename_i s2 f2 cs2 hcs2 v2 Z4 H4 hz4 hs4 how H5 h0 h1 hs5
  clear hs2 hs3 hs4
  refine ⟨s2, f2, how, Z4, cs2, v2, rfl, hs5.zl, by tm_at "dt", hcs2.mono (by decide), ⟨h0, by omega⟩, fun H6 k6 => ?_⟩
  have hs6 := hs5.same k6
  clear hs5
  tm_at "run"
  refine ⟨st, fi, 3 - how, Z4, cs, v, rfl, hs6.zl, by tm_at "dt", hcs.2.1.mono (by decide), ⟨by omega, by omega⟩, fun H7 k7 => ?_⟩
  have hs7 := hs6.same k7
  clear hs6
  have hm := hcs2.mono (show 30 ≤ 60 by decide)
  tm_at "run"
  all_goals first
    | (tm_at "finv"; exact k _)
    | exact k _
    | (refine ⟨s2, f2, _, Z4, cs2, v2, rfl, Hs.zl (by assumption), by tm_at "dt", hcs2.mono (by decide), ⟨by omega, by omega⟩, fun H8 k8 => k _⟩)

end
end My
set_option Elab.async false
set_option linter.all false
set_option autoImplicit false
set_option maxRecDepth 100000
set_option maxHeartbeats 4000000
namespace My
open PySem PySem.Spec PyProof.Rows L2 U
theorem mk_all {P : Program} {w : World} {K : PySem.W.Frag} {h : Heap} {mg : Str → Option Value} {fa : Addr} (X : K.In h) (G : h.Ns mainGlobals mg) (hfa : mg "law" = some (.ref fa))
    {CPlainBook : Addr} {COddsError : Addr} {CBadShare : Addr} {CBadText : Addr} {CBadBook : Addr} {CBadMove : Addr} {CBadProgram : Addr} {CBadPlan : Addr} {CUnfit : Addr} {CTooLarge : Addr} {CBadEdit : Addr} {f_l_int : Addr} {od_l_int an_l_int : Option Addr} {sl_l_int : Array (Option Value)} {oc_l_int kV_l_int dc_l_int pm_l_int cd_l_int ct_l_int : Value} {f_l_pool : Addr} {od_l_pool an_l_pool : Option Addr} {sl_l_pool : Array (Option Value)} {oc_l_pool kV_l_pool dc_l_pool pm_l_pool cd_l_pool ct_l_pool : Value} {f_l_stirred : Addr} {od_l_stirred an_l_stirred : Option Addr} {sl_l_stirred : Array (Option Value)} {oc_l_stirred kV_l_stirred dc_l_stirred pm_l_stirred cd_l_stirred ct_l_stirred : Value} {f_l_draw : Addr} {od_l_draw an_l_draw : Option Addr} {sl_l_draw : Array (Option Value)} {oc_l_draw kV_l_draw dc_l_draw pm_l_draw cd_l_draw ct_l_draw : Value} {f_law : Addr} {od_law an_law : Option Addr} {sl_law : Array (Option Value)} {oc_law kV_law dc_law pm_law cd_law ct_law : Value} {f_is_name : Addr} {od_is_name an_is_name : Option Addr} {sl_is_name : Array (Option Value)} {oc_is_name kV_is_name dc_is_name pm_is_name cd_is_name ct_is_name : Value} {f_check_choice : Addr} {od_check_choice an_check_choice : Option Addr} {sl_check_choice : Array (Option Value)} {oc_check_choice kV_check_choice dc_check_choice pm_check_choice cd_check_choice ct_check_choice : Value} {f_grouped_options : Addr} {od_grouped_options an_grouped_options : Option Addr} {sl_grouped_options : Array (Option Value)} {oc_grouped_options kV_grouped_options dc_grouped_options pm_grouped_options cd_grouped_options ct_grouped_options : Value} {f_l_same : Addr} {od_l_same an_l_same : Option Addr} {sl_l_same : Array (Option Value)} {oc_l_same kV_l_same dc_l_same pm_l_same cd_l_same ct_l_same : Value} {f_l_name : Addr} {od_l_name an_l_name : Option Addr} {sl_l_name : Array (Option Value)} {oc_l_name kV_l_name dc_l_name pm_l_name cd_l_name ct_l_name : Value} {f_l_names : Addr} {od_l_names an_l_names : Option Addr} {sl_l_names : Array (Option Value)} {oc_l_names kV_l_names dc_l_names pm_l_names cd_l_names ct_l_names : Value} {f_l_odd_name : Addr} {od_l_odd_name an_l_odd_name : Option Addr} {sl_l_odd_name : Array (Option Value)} {oc_l_odd_name kV_l_odd_name dc_l_odd_name pm_l_odd_name cd_l_odd_name ct_l_odd_name : Value} {f_l_is_name : Addr} {od_l_is_name an_l_is_name : Option Addr} {sl_l_is_name : Array (Option Value)} {oc_l_is_name kV_l_is_name dc_l_is_name pm_l_is_name cd_l_is_name ct_l_is_name : Value} {f_l_book : Addr} {od_l_book an_l_book : Option Addr} {sl_l_book : Array (Option Value)} {oc_l_book kV_l_book dc_l_book pm_l_book cd_l_book ct_l_book : Value} {f_l_more_options : Addr} {od_l_more_options an_l_more_options : Option Addr} {sl_l_more_options : Array (Option Value)} {oc_l_more_options kV_l_more_options dc_l_more_options pm_l_more_options cd_l_more_options ct_l_more_options : Value} {f_l_bent : Addr} {od_l_bent an_l_bent : Option Addr} {sl_l_bent : Array (Option Value)} {oc_l_bent kV_l_bent dc_l_bent pm_l_bent cd_l_bent ct_l_bent : Value} {f_l_is_book : Addr} {od_l_is_book an_l_is_book : Option Addr} {sl_l_is_book : Array (Option Value)} {oc_l_is_book kV_l_is_book dc_l_is_book pm_l_is_book cd_l_is_book ct_l_is_book : Value} {f_l_handed : Addr} {od_l_handed an_l_handed : Option Addr} {sl_l_handed : Array (Option Value)} {oc_l_handed kV_l_handed dc_l_handed pm_l_handed cd_l_handed ct_l_handed : Value} {f_l_spoil : Addr} {od_l_spoil an_l_spoil : Option Addr} {sl_l_spoil : Array (Option Value)} {oc_l_spoil kV_l_spoil dc_l_spoil pm_l_spoil cd_l_spoil ct_l_spoil : Value} {f_l_refused : Addr} {od_l_refused an_l_refused : Option Addr} {sl_l_refused : Array (Option Value)} {oc_l_refused kV_l_refused dc_l_refused pm_l_refused cd_l_refused ct_l_refused : Value} {f_l_options_hold : Addr} {od_l_options_hold an_l_options_hold : Option Addr} {sl_l_options_hold : Array (Option Value)} {oc_l_options_hold kV_l_options_hold dc_l_options_hold pm_l_options_hold cd_l_options_hold ct_l_options_hold : Value} {f_l_keeps : Addr} {od_l_keeps an_l_keeps : Option Addr} {sl_l_keeps : Array (Option Value)} {oc_l_keeps kV_l_keeps dc_l_keeps pm_l_keeps cd_l_keeps ct_l_keeps : Value} {f_l_keys : Addr} {od_l_keys an_l_keys : Option Addr} {sl_l_keys : Array (Option Value)} {oc_l_keys kV_l_keys dc_l_keys pm_l_keys cd_l_keys ct_l_keys : Value} {f_l_book_holds : Addr} {od_l_book_holds an_l_book_holds : Option Addr} {sl_l_book_holds : Array (Option Value)} {oc_l_book_holds kV_l_book_holds dc_l_book_holds pm_l_book_holds cd_l_book_holds ct_l_book_holds : Value} {f_PlainBook_options : Addr} {od_PlainBook_options an_PlainBook_options : Option Addr} {sl_PlainBook_options : Array (Option Value)} {oc_PlainBook_options kV_PlainBook_options dc_PlainBook_options pm_PlainBook_options cd_PlainBook_options ct_PlainBook_options : Value} {f_init : Addr} {od_init an_init : Option Addr} {sl_init : Array (Option Value)} {oc_init kV_init dc_init pm_init cd_init ct_init : Value} {p_det f_det : Addr} {od_det an_det : Option Addr} {sl_det : Array (Option Value)} {oc_det kV_det dc_det pm_det cd_det ct_det : Value} {rs_det : List Value} {tk_LETTERS : Tok} {tk_DIGITS : Tok} {tk_MOST_NAME_CHARACTERS : Tok} {tk_MOST_STATES : Tok} {tk_MOST_OPTIONS : Tok} {tk_VALUE_LIMIT : Tok}
        (gCPlainBook : PySem.W.nsIn K mainGlobals "PlainBook" = some (some (.ref CPlainBook)))
    (gCOddsError : PySem.W.nsIn K mainGlobals "OddsError" = some (some (.ref COddsError)))
    (gCBadShare : PySem.W.nsIn K mainGlobals "BadShare" = some (some (.ref CBadShare)))
    (gCBadText : PySem.W.nsIn K mainGlobals "BadText" = some (some (.ref CBadText)))
    (gCBadBook : PySem.W.nsIn K mainGlobals "BadBook" = some (some (.ref CBadBook)))
    (gCBadMove : PySem.W.nsIn K mainGlobals "BadMove" = some (some (.ref CBadMove)))
    (gCBadProgram : PySem.W.nsIn K mainGlobals "BadProgram" = some (some (.ref CBadProgram)))
    (gCBadPlan : PySem.W.nsIn K mainGlobals "BadPlan" = some (some (.ref CBadPlan)))
    (gCUnfit : PySem.W.nsIn K mainGlobals "Unfit" = some (some (.ref CUnfit)))
    (gCTooLarge : PySem.W.nsIn K mainGlobals "TooLarge" = some (some (.ref CTooLarge)))
    (gCBadEdit : PySem.W.nsIn K mainGlobals "BadEdit" = some (some (.ref CBadEdit)))
    (hn0 : PySem.W.specialIn K (.builtin "object.__class__") "__get__" = some (some (.builtin "getset_descriptor.__get__")))
    (ht0 : PySem.W.takesIn K (.builtin "object.__class__") = some true)
    (a_l_int : PySem.W.nsIn K mainGlobals "_law_int" = some (some (.ref f_l_int)))
    (l_l_int : K.lookup f_l_int = some ⟨oc_l_int, od_l_int, .func (PySem.W.fnOf "_law_int" "_law_int" (defArgs s_l_int) (defBody s_l_int) (defScope s_l_int) .none kV_l_int dc_l_int pm_l_int an_l_int cd_l_int ct_l_int), sl_l_int⟩)
    (c_l_int : PySem.W.codeIn K cd_l_int "_law_int" = true)
    (k_l_int : PySem.W.keepIn K (.ref f_l_int) = true)
    (a_l_pool : PySem.W.nsIn K mainGlobals "_law_pool" = some (some (.ref f_l_pool)))
    (l_l_pool : K.lookup f_l_pool = some ⟨oc_l_pool, od_l_pool, .func (PySem.W.fnOf "_law_pool" "_law_pool" (defArgs s_l_pool) (defBody s_l_pool) (defScope s_l_pool) .none kV_l_pool dc_l_pool pm_l_pool an_l_pool cd_l_pool ct_l_pool), sl_l_pool⟩)
    (c_l_pool : PySem.W.codeIn K cd_l_pool "_law_pool" = true)
    (k_l_pool : PySem.W.keepIn K (.ref f_l_pool) = true)
    (a_l_stirred : PySem.W.nsIn K mainGlobals "_law_stirred" = some (some (.ref f_l_stirred)))
    (l_l_stirred : K.lookup f_l_stirred = some ⟨oc_l_stirred, od_l_stirred, .func (PySem.W.fnOf "_law_stirred" "_law_stirred" (defArgs s_l_stirred) (defBody s_l_stirred) (defScope s_l_stirred) .none kV_l_stirred dc_l_stirred pm_l_stirred an_l_stirred cd_l_stirred ct_l_stirred), sl_l_stirred⟩)
    (c_l_stirred : PySem.W.codeIn K cd_l_stirred "_law_stirred" = true)
    (k_l_stirred : PySem.W.keepIn K (.ref f_l_stirred) = true)
    (a_l_draw : PySem.W.nsIn K mainGlobals "_law_draw" = some (some (.ref f_l_draw)))
    (l_l_draw : K.lookup f_l_draw = some ⟨oc_l_draw, od_l_draw, .func (PySem.W.fnOf "_law_draw" "_law_draw" (defArgs s_l_draw) (defBody s_l_draw) (defScope s_l_draw) .none kV_l_draw dc_l_draw pm_l_draw an_l_draw cd_l_draw ct_l_draw), sl_l_draw⟩)
    (c_l_draw : PySem.W.codeIn K cd_l_draw "_law_draw" = true)
    (k_l_draw : PySem.W.keepIn K (.ref f_l_draw) = true)
    (a_law : PySem.W.nsIn K mainGlobals "law" = some (some (.ref f_law)))
    (l_law : K.lookup f_law = some ⟨oc_law, od_law, .func (PySem.W.fnOf "law" "law" (defArgs s_law) (defBody s_law) (defScope s_law) .none kV_law dc_law pm_law an_law cd_law ct_law), sl_law⟩)
    (c_law : PySem.W.codeIn K cd_law "law" = true)
    (k_law : PySem.W.keepIn K (.ref f_law) = true)
    (a_is_name : PySem.W.nsIn K mainGlobals "is_name" = some (some (.ref f_is_name)))
    (l_is_name : K.lookup f_is_name = some ⟨oc_is_name, od_is_name, .func (PySem.W.fnOf "is_name" "is_name" (defArgs s_is_name) (defBody s_is_name) (defScope s_is_name) .none kV_is_name dc_is_name pm_is_name an_is_name cd_is_name ct_is_name), sl_is_name⟩)
    (c_is_name : PySem.W.codeIn K cd_is_name "is_name" = true)
    (k_is_name : PySem.W.keepIn K (.ref f_is_name) = true)
    (a_check_choice : PySem.W.nsIn K mainGlobals "check_choice" = some (some (.ref f_check_choice)))
    (l_check_choice : K.lookup f_check_choice = some ⟨oc_check_choice, od_check_choice, .func (PySem.W.fnOf "check_choice" "check_choice" (defArgs s_check_choice) (defBody s_check_choice) (defScope s_check_choice) .none kV_check_choice dc_check_choice pm_check_choice an_check_choice cd_check_choice ct_check_choice), sl_check_choice⟩)
    (c_check_choice : PySem.W.codeIn K cd_check_choice "check_choice" = true)
    (k_check_choice : PySem.W.keepIn K (.ref f_check_choice) = true)
    (a_grouped_options : PySem.W.nsIn K mainGlobals "grouped_options" = some (some (.ref f_grouped_options)))
    (l_grouped_options : K.lookup f_grouped_options = some ⟨oc_grouped_options, od_grouped_options, .func (PySem.W.fnOf "grouped_options" "grouped_options" (defArgs s_grouped_options) (defBody s_grouped_options) (defScope s_grouped_options) .none kV_grouped_options dc_grouped_options pm_grouped_options an_grouped_options cd_grouped_options ct_grouped_options), sl_grouped_options⟩)
    (c_grouped_options : PySem.W.codeIn K cd_grouped_options "grouped_options" = true)
    (k_grouped_options : PySem.W.keepIn K (.ref f_grouped_options) = true)
    (a_l_same : PySem.W.nsIn K mainGlobals "_law_same" = some (some (.ref f_l_same)))
    (l_l_same : K.lookup f_l_same = some ⟨oc_l_same, od_l_same, .func (PySem.W.fnOf "_law_same" "_law_same" (defArgs s_l_same) (defBody s_l_same) (defScope s_l_same) .none kV_l_same dc_l_same pm_l_same an_l_same cd_l_same ct_l_same), sl_l_same⟩)
    (c_l_same : PySem.W.codeIn K cd_l_same "_law_same" = true)
    (k_l_same : PySem.W.keepIn K (.ref f_l_same) = true)
    (a_l_name : PySem.W.nsIn K mainGlobals "_law_name" = some (some (.ref f_l_name)))
    (l_l_name : K.lookup f_l_name = some ⟨oc_l_name, od_l_name, .func (PySem.W.fnOf "_law_name" "_law_name" (defArgs s_l_name) (defBody s_l_name) (defScope s_l_name) .none kV_l_name dc_l_name pm_l_name an_l_name cd_l_name ct_l_name), sl_l_name⟩)
    (c_l_name : PySem.W.codeIn K cd_l_name "_law_name" = true)
    (k_l_name : PySem.W.keepIn K (.ref f_l_name) = true)
    (a_l_names : PySem.W.nsIn K mainGlobals "_law_names" = some (some (.ref f_l_names)))
    (l_l_names : K.lookup f_l_names = some ⟨oc_l_names, od_l_names, .func (PySem.W.fnOf "_law_names" "_law_names" (defArgs s_l_names) (defBody s_l_names) (defScope s_l_names) .none kV_l_names dc_l_names pm_l_names an_l_names cd_l_names ct_l_names), sl_l_names⟩)
    (c_l_names : PySem.W.codeIn K cd_l_names "_law_names" = true)
    (k_l_names : PySem.W.keepIn K (.ref f_l_names) = true)
    (a_l_odd_name : PySem.W.nsIn K mainGlobals "_law_odd_name" = some (some (.ref f_l_odd_name)))
    (l_l_odd_name : K.lookup f_l_odd_name = some ⟨oc_l_odd_name, od_l_odd_name, .func (PySem.W.fnOf "_law_odd_name" "_law_odd_name" (defArgs s_l_odd_name) (defBody s_l_odd_name) (defScope s_l_odd_name) .none kV_l_odd_name dc_l_odd_name pm_l_odd_name an_l_odd_name cd_l_odd_name ct_l_odd_name), sl_l_odd_name⟩)
    (c_l_odd_name : PySem.W.codeIn K cd_l_odd_name "_law_odd_name" = true)
    (k_l_odd_name : PySem.W.keepIn K (.ref f_l_odd_name) = true)
    (a_l_is_name : PySem.W.nsIn K mainGlobals "_law_is_name" = some (some (.ref f_l_is_name)))
    (l_l_is_name : K.lookup f_l_is_name = some ⟨oc_l_is_name, od_l_is_name, .func (PySem.W.fnOf "_law_is_name" "_law_is_name" (defArgs s_l_is_name) (defBody s_l_is_name) (defScope s_l_is_name) .none kV_l_is_name dc_l_is_name pm_l_is_name an_l_is_name cd_l_is_name ct_l_is_name), sl_l_is_name⟩)
    (c_l_is_name : PySem.W.codeIn K cd_l_is_name "_law_is_name" = true)
    (k_l_is_name : PySem.W.keepIn K (.ref f_l_is_name) = true)
    (a_l_book : PySem.W.nsIn K mainGlobals "_law_book" = some (some (.ref f_l_book)))
    (l_l_book : K.lookup f_l_book = some ⟨oc_l_book, od_l_book, .func (PySem.W.fnOf "_law_book" "_law_book" (defArgs s_l_book) (defBody s_l_book) (defScope s_l_book) .none kV_l_book dc_l_book pm_l_book an_l_book cd_l_book ct_l_book), sl_l_book⟩)
    (c_l_book : PySem.W.codeIn K cd_l_book "_law_book" = true)
    (k_l_book : PySem.W.keepIn K (.ref f_l_book) = true)
    (a_l_more_options : PySem.W.nsIn K mainGlobals "_law_more_options" = some (some (.ref f_l_more_options)))
    (l_l_more_options : K.lookup f_l_more_options = some ⟨oc_l_more_options, od_l_more_options, .func (PySem.W.fnOf "_law_more_options" "_law_more_options" (defArgs s_l_more_options) (defBody s_l_more_options) (defScope s_l_more_options) .none kV_l_more_options dc_l_more_options pm_l_more_options an_l_more_options cd_l_more_options ct_l_more_options), sl_l_more_options⟩)
    (c_l_more_options : PySem.W.codeIn K cd_l_more_options "_law_more_options" = true)
    (k_l_more_options : PySem.W.keepIn K (.ref f_l_more_options) = true)
    (a_l_bent : PySem.W.nsIn K mainGlobals "_law_bent" = some (some (.ref f_l_bent)))
    (l_l_bent : K.lookup f_l_bent = some ⟨oc_l_bent, od_l_bent, .func (PySem.W.fnOf "_law_bent" "_law_bent" (defArgs s_l_bent) (defBody s_l_bent) (defScope s_l_bent) .none kV_l_bent dc_l_bent pm_l_bent an_l_bent cd_l_bent ct_l_bent), sl_l_bent⟩)
    (c_l_bent : PySem.W.codeIn K cd_l_bent "_law_bent" = true)
    (k_l_bent : PySem.W.keepIn K (.ref f_l_bent) = true)
    (a_l_is_book : PySem.W.nsIn K mainGlobals "_law_is_book" = some (some (.ref f_l_is_book)))
    (l_l_is_book : K.lookup f_l_is_book = some ⟨oc_l_is_book, od_l_is_book, .func (PySem.W.fnOf "_law_is_book" "_law_is_book" (defArgs s_l_is_book) (defBody s_l_is_book) (defScope s_l_is_book) .none kV_l_is_book dc_l_is_book pm_l_is_book an_l_is_book cd_l_is_book ct_l_is_book), sl_l_is_book⟩)
    (c_l_is_book : PySem.W.codeIn K cd_l_is_book "_law_is_book" = true)
    (k_l_is_book : PySem.W.keepIn K (.ref f_l_is_book) = true)
    (a_l_handed : PySem.W.nsIn K mainGlobals "_law_handed" = some (some (.ref f_l_handed)))
    (l_l_handed : K.lookup f_l_handed = some ⟨oc_l_handed, od_l_handed, .func (PySem.W.fnOf "_law_handed" "_law_handed" (defArgs s_l_handed) (defBody s_l_handed) (defScope s_l_handed) .none kV_l_handed dc_l_handed pm_l_handed an_l_handed cd_l_handed ct_l_handed), sl_l_handed⟩)
    (c_l_handed : PySem.W.codeIn K cd_l_handed "_law_handed" = true)
    (k_l_handed : PySem.W.keepIn K (.ref f_l_handed) = true)
    (a_l_spoil : PySem.W.nsIn K mainGlobals "_law_spoil" = some (some (.ref f_l_spoil)))
    (l_l_spoil : K.lookup f_l_spoil = some ⟨oc_l_spoil, od_l_spoil, .func (PySem.W.fnOf "_law_spoil" "_law_spoil" (defArgs s_l_spoil) (defBody s_l_spoil) (defScope s_l_spoil) .none kV_l_spoil dc_l_spoil pm_l_spoil an_l_spoil cd_l_spoil ct_l_spoil), sl_l_spoil⟩)
    (c_l_spoil : PySem.W.codeIn K cd_l_spoil "_law_spoil" = true)
    (k_l_spoil : PySem.W.keepIn K (.ref f_l_spoil) = true)
    (a_l_refused : PySem.W.nsIn K mainGlobals "_law_refused" = some (some (.ref f_l_refused)))
    (l_l_refused : K.lookup f_l_refused = some ⟨oc_l_refused, od_l_refused, .func (PySem.W.fnOf "_law_refused" "_law_refused" (defArgs s_l_refused) (defBody s_l_refused) (defScope s_l_refused) .none kV_l_refused dc_l_refused pm_l_refused an_l_refused cd_l_refused ct_l_refused), sl_l_refused⟩)
    (c_l_refused : PySem.W.codeIn K cd_l_refused "_law_refused" = true)
    (k_l_refused : PySem.W.keepIn K (.ref f_l_refused) = true)
    (a_l_options_hold : PySem.W.nsIn K mainGlobals "_law_options_hold" = some (some (.ref f_l_options_hold)))
    (l_l_options_hold : K.lookup f_l_options_hold = some ⟨oc_l_options_hold, od_l_options_hold, .func (PySem.W.fnOf "_law_options_hold" "_law_options_hold" (defArgs s_l_options_hold) (defBody s_l_options_hold) (defScope s_l_options_hold) .none kV_l_options_hold dc_l_options_hold pm_l_options_hold an_l_options_hold cd_l_options_hold ct_l_options_hold), sl_l_options_hold⟩)
    (c_l_options_hold : PySem.W.codeIn K cd_l_options_hold "_law_options_hold" = true)
    (k_l_options_hold : PySem.W.keepIn K (.ref f_l_options_hold) = true)
    (a_l_keeps : PySem.W.nsIn K mainGlobals "_law_keeps" = some (some (.ref f_l_keeps)))
    (l_l_keeps : K.lookup f_l_keeps = some ⟨oc_l_keeps, od_l_keeps, .func (PySem.W.fnOf "_law_keeps" "_law_keeps" (defArgs s_l_keeps) (defBody s_l_keeps) (defScope s_l_keeps) .none kV_l_keeps dc_l_keeps pm_l_keeps an_l_keeps cd_l_keeps ct_l_keeps), sl_l_keeps⟩)
    (c_l_keeps : PySem.W.codeIn K cd_l_keeps "_law_keeps" = true)
    (k_l_keeps : PySem.W.keepIn K (.ref f_l_keeps) = true)
    (a_l_keys : PySem.W.nsIn K mainGlobals "_law_keys" = some (some (.ref f_l_keys)))
    (l_l_keys : K.lookup f_l_keys = some ⟨oc_l_keys, od_l_keys, .func (PySem.W.fnOf "_law_keys" "_law_keys" (defArgs s_l_keys) (defBody s_l_keys) (defScope s_l_keys) .none kV_l_keys dc_l_keys pm_l_keys an_l_keys cd_l_keys ct_l_keys), sl_l_keys⟩)
    (c_l_keys : PySem.W.codeIn K cd_l_keys "_law_keys" = true)
    (k_l_keys : PySem.W.keepIn K (.ref f_l_keys) = true)
    (a_l_book_holds : PySem.W.nsIn K mainGlobals "_law_book_holds" = some (some (.ref f_l_book_holds)))
    (l_l_book_holds : K.lookup f_l_book_holds = some ⟨oc_l_book_holds, od_l_book_holds, .func (PySem.W.fnOf "_law_book_holds" "_law_book_holds" (defArgs s_l_book_holds) (defBody s_l_book_holds) (defScope s_l_book_holds) .none kV_l_book_holds dc_l_book_holds pm_l_book_holds an_l_book_holds cd_l_book_holds ct_l_book_holds), sl_l_book_holds⟩)
    (c_l_book_holds : PySem.W.codeIn K cd_l_book_holds "_law_book_holds" = true)
    (k_l_book_holds : PySem.W.keepIn K (.ref f_l_book_holds) = true)
    (z_isinstance : PySem.W.nsIn K mainGlobals "isinstance" = some none)
    (z_int : PySem.W.nsIn K mainGlobals "int" = some none)
    (z_bool : PySem.W.nsIn K mainGlobals "bool" = some none)
    (z_str : PySem.W.nsIn K mainGlobals "str" = some none)
    (z_tuple : PySem.W.nsIn K mainGlobals "tuple" = some none)
    (z_list : PySem.W.nsIn K mainGlobals "list" = some none)
    (z_len : PySem.W.nsIn K mainGlobals "len" = some none)
    (z_abs : PySem.W.nsIn K mainGlobals "abs" = some none)
    (z_max : PySem.W.nsIn K mainGlobals "max" = some none)
    (z_min : PySem.W.nsIn K mainGlobals "min" = some none)
    (z_range : PySem.W.nsIn K mainGlobals "range" = some none)
    (z_ValueError : PySem.W.nsIn K mainGlobals "ValueError" = some none)
    (a_PlainBook_options : PySem.W.findIn K (.ref CPlainBook) "options" = some (some (.ref f_PlainBook_options)))
    (i_PlainBook_options : PySem.W.isFn K (.ref f_PlainBook_options) = true)
    (l_PlainBook_options : K.lookup f_PlainBook_options = some ⟨oc_PlainBook_options, od_PlainBook_options, .func (PySem.W.fnOf "options" "PlainBook.options" (defArgs s_PlainBook_options) (defBody s_PlainBook_options) (defScope s_PlainBook_options) .none kV_PlainBook_options dc_PlainBook_options pm_PlainBook_options an_PlainBook_options cd_PlainBook_options ct_PlainBook_options), sl_PlainBook_options⟩)
    (c_PlainBook_options : PySem.W.codeIn K cd_PlainBook_options "PlainBook.options" = true)
    (k_PlainBook_options : PySem.W.keepIn K (.ref f_PlainBook_options) = true)
    (kCOddsError : PySem.W.keepIn K (.ref COddsError) = true)
    (bCOddsError : PySem.W.subIn K (.ref COddsError) (.type "BaseException") = some true)
    (tCOddsError : PySem.W.typeIn K (.ref COddsError) = some (.type "type"))
    (gaCOddsError : PySem.W.findIn K (.ref COddsError) "__getattribute__" = some (some (.builtin "BaseException.__getattribute__")))
    (gbCOddsError : PySem.W.findIn K (.ref COddsError) "__getattr__" = some none)
    (hdCOddsError : PySem.W.hasDictIn K COddsError = true)
    (clCOddsError : PySem.W.findIn K (.ref COddsError) "__class__" = some (some (.builtin "object.__class__")))
    (mrCOddsError : PySem.W.mroIn K COddsError (.type "object") = some true)
    (kCBadShare : PySem.W.keepIn K (.ref CBadShare) = true)
    (bCBadShare : PySem.W.subIn K (.ref CBadShare) (.type "BaseException") = some true)
    (tCBadShare : PySem.W.typeIn K (.ref CBadShare) = some (.type "type"))
    (gaCBadShare : PySem.W.findIn K (.ref CBadShare) "__getattribute__" = some (some (.builtin "BaseException.__getattribute__")))
    (gbCBadShare : PySem.W.findIn K (.ref CBadShare) "__getattr__" = some none)
    (hdCBadShare : PySem.W.hasDictIn K CBadShare = true)
    (clCBadShare : PySem.W.findIn K (.ref CBadShare) "__class__" = some (some (.builtin "object.__class__")))
    (mrCBadShare : PySem.W.mroIn K CBadShare (.type "object") = some true)
    (kCBadText : PySem.W.keepIn K (.ref CBadText) = true)
    (bCBadText : PySem.W.subIn K (.ref CBadText) (.type "BaseException") = some true)
    (tCBadText : PySem.W.typeIn K (.ref CBadText) = some (.type "type"))
    (gaCBadText : PySem.W.findIn K (.ref CBadText) "__getattribute__" = some (some (.builtin "BaseException.__getattribute__")))
    (gbCBadText : PySem.W.findIn K (.ref CBadText) "__getattr__" = some none)
    (hdCBadText : PySem.W.hasDictIn K CBadText = true)
    (clCBadText : PySem.W.findIn K (.ref CBadText) "__class__" = some (some (.builtin "object.__class__")))
    (mrCBadText : PySem.W.mroIn K CBadText (.type "object") = some true)
    (kCBadBook : PySem.W.keepIn K (.ref CBadBook) = true)
    (bCBadBook : PySem.W.subIn K (.ref CBadBook) (.type "BaseException") = some true)
    (tCBadBook : PySem.W.typeIn K (.ref CBadBook) = some (.type "type"))
    (gaCBadBook : PySem.W.findIn K (.ref CBadBook) "__getattribute__" = some (some (.builtin "BaseException.__getattribute__")))
    (gbCBadBook : PySem.W.findIn K (.ref CBadBook) "__getattr__" = some none)
    (hdCBadBook : PySem.W.hasDictIn K CBadBook = true)
    (clCBadBook : PySem.W.findIn K (.ref CBadBook) "__class__" = some (some (.builtin "object.__class__")))
    (mrCBadBook : PySem.W.mroIn K CBadBook (.type "object") = some true)
    (kCBadMove : PySem.W.keepIn K (.ref CBadMove) = true)
    (bCBadMove : PySem.W.subIn K (.ref CBadMove) (.type "BaseException") = some true)
    (tCBadMove : PySem.W.typeIn K (.ref CBadMove) = some (.type "type"))
    (gaCBadMove : PySem.W.findIn K (.ref CBadMove) "__getattribute__" = some (some (.builtin "BaseException.__getattribute__")))
    (gbCBadMove : PySem.W.findIn K (.ref CBadMove) "__getattr__" = some none)
    (hdCBadMove : PySem.W.hasDictIn K CBadMove = true)
    (clCBadMove : PySem.W.findIn K (.ref CBadMove) "__class__" = some (some (.builtin "object.__class__")))
    (mrCBadMove : PySem.W.mroIn K CBadMove (.type "object") = some true)
    (kCBadProgram : PySem.W.keepIn K (.ref CBadProgram) = true)
    (bCBadProgram : PySem.W.subIn K (.ref CBadProgram) (.type "BaseException") = some true)
    (tCBadProgram : PySem.W.typeIn K (.ref CBadProgram) = some (.type "type"))
    (gaCBadProgram : PySem.W.findIn K (.ref CBadProgram) "__getattribute__" = some (some (.builtin "BaseException.__getattribute__")))
    (gbCBadProgram : PySem.W.findIn K (.ref CBadProgram) "__getattr__" = some none)
    (hdCBadProgram : PySem.W.hasDictIn K CBadProgram = true)
    (clCBadProgram : PySem.W.findIn K (.ref CBadProgram) "__class__" = some (some (.builtin "object.__class__")))
    (mrCBadProgram : PySem.W.mroIn K CBadProgram (.type "object") = some true)
    (kCBadPlan : PySem.W.keepIn K (.ref CBadPlan) = true)
    (bCBadPlan : PySem.W.subIn K (.ref CBadPlan) (.type "BaseException") = some true)
    (tCBadPlan : PySem.W.typeIn K (.ref CBadPlan) = some (.type "type"))
    (gaCBadPlan : PySem.W.findIn K (.ref CBadPlan) "__getattribute__" = some (some (.builtin "BaseException.__getattribute__")))
    (gbCBadPlan : PySem.W.findIn K (.ref CBadPlan) "__getattr__" = some none)
    (hdCBadPlan : PySem.W.hasDictIn K CBadPlan = true)
    (clCBadPlan : PySem.W.findIn K (.ref CBadPlan) "__class__" = some (some (.builtin "object.__class__")))
    (mrCBadPlan : PySem.W.mroIn K CBadPlan (.type "object") = some true)
    (kCUnfit : PySem.W.keepIn K (.ref CUnfit) = true)
    (bCUnfit : PySem.W.subIn K (.ref CUnfit) (.type "BaseException") = some true)
    (tCUnfit : PySem.W.typeIn K (.ref CUnfit) = some (.type "type"))
    (gaCUnfit : PySem.W.findIn K (.ref CUnfit) "__getattribute__" = some (some (.builtin "BaseException.__getattribute__")))
    (gbCUnfit : PySem.W.findIn K (.ref CUnfit) "__getattr__" = some none)
    (hdCUnfit : PySem.W.hasDictIn K CUnfit = true)
    (clCUnfit : PySem.W.findIn K (.ref CUnfit) "__class__" = some (some (.builtin "object.__class__")))
    (mrCUnfit : PySem.W.mroIn K CUnfit (.type "object") = some true)
    (kCTooLarge : PySem.W.keepIn K (.ref CTooLarge) = true)
    (bCTooLarge : PySem.W.subIn K (.ref CTooLarge) (.type "BaseException") = some true)
    (tCTooLarge : PySem.W.typeIn K (.ref CTooLarge) = some (.type "type"))
    (gaCTooLarge : PySem.W.findIn K (.ref CTooLarge) "__getattribute__" = some (some (.builtin "BaseException.__getattribute__")))
    (gbCTooLarge : PySem.W.findIn K (.ref CTooLarge) "__getattr__" = some none)
    (hdCTooLarge : PySem.W.hasDictIn K CTooLarge = true)
    (clCTooLarge : PySem.W.findIn K (.ref CTooLarge) "__class__" = some (some (.builtin "object.__class__")))
    (mrCTooLarge : PySem.W.mroIn K CTooLarge (.type "object") = some true)
    (kCBadEdit : PySem.W.keepIn K (.ref CBadEdit) = true)
    (bCBadEdit : PySem.W.subIn K (.ref CBadEdit) (.type "BaseException") = some true)
    (tCBadEdit : PySem.W.typeIn K (.ref CBadEdit) = some (.type "type"))
    (gaCBadEdit : PySem.W.findIn K (.ref CBadEdit) "__getattribute__" = some (some (.builtin "BaseException.__getattribute__")))
    (gbCBadEdit : PySem.W.findIn K (.ref CBadEdit) "__getattr__" = some none)
    (hdCBadEdit : PySem.W.hasDictIn K CBadEdit = true)
    (clCBadEdit : PySem.W.findIn K (.ref CBadEdit) "__class__" = some (some (.builtin "object.__class__")))
    (mrCBadEdit : PySem.W.mroIn K CBadEdit (.type "object") = some true)
    (Spg : PySem.W.plainGet K CPlainBook Str.empty = true)
    (Shd : PySem.W.hasDictIn K CPlainBook = true)
    (Spo : PySem.W.plainOver K CPlainBook = true)
    (Ssa : PySem.W.findIn K (.ref CPlainBook) "__setattr__" = some (some (.builtin "object.__setattr__")))
    (Sn1 : PySem.W.findIn K (.ref CPlainBook) "states" = some none)
    (Sn2 : PySem.W.findIn K (.ref CPlainBook) "first" = some none)
    (Sn3 : PySem.W.findIn K (.ref CPlainBook) "choices" = some none)
    (Sn4 : PySem.W.findIn K (.ref CPlainBook) "_options" = some none)
    (Smk : PySem.W.makesIn K CPlainBook = true)
    (Skp : PySem.W.keepIn K (.ref CPlainBook) = true)
    (a_init : PySem.W.findIn K (.ref CPlainBook) "__init__" = some (some (.ref f_init)))
    (i_init : PySem.W.isFn K (.ref f_init) = true)
    (l_init : K.lookup f_init = some ⟨oc_init, od_init, .func (PySem.W.fnOf "__init__" "PlainBook.__init__" (defArgs s_PlainBook___init__) (defBody s_PlainBook___init__) (defScope s_PlainBook___init__) .none kV_init dc_init pm_init an_init cd_init ct_init), sl_init⟩)
    (c_init : PySem.W.codeIn K cd_init "PlainBook.__init__" = true)
    (k_init : PySem.W.keepIn K (.ref f_init) = true)
    (at_det : PySem.W.findIn K (.ref CPlainBook) "deterministic" = some (some (.ref p_det)))
    (rc_det : PySem.W.recIn K p_det "property" = some (.ref f_det :: rs_det))
    (gt_det : PySem.W.specialIn K (.ref p_det) "__get__" = some (some (.builtin "property.__get__")))
    (tk_det : PySem.W.takesIn K (.ref p_det) = some true)
    (l_det : K.lookup f_det = some ⟨oc_det, od_det, .func (PySem.W.fnOf "deterministic" "PlainBook.deterministic" (defArgs s_PlainBook_deterministic) (defBody s_PlainBook_deterministic) (defScope s_PlainBook_deterministic) .none kV_det dc_det pm_det an_det cd_det ct_det), sl_det⟩)
    (c_det : PySem.W.codeIn K cd_det "PlainBook.deterministic" = true)
    (k_det : PySem.W.keepIn K (.ref f_det) = true)
    (xBB : PySem.W.excIn K CBadBook [.type "ValueError", .type "Exception", .type "BaseException", .type "object"] "ValueError.__new__" = true)
    (up : PySem.W.subIn K (.ref CBadBook) (.ref COddsError) = some true)
    (upV : PySem.W.subIn K (.ref CBadBook) (.type "ValueError") = some true)
    (noBadShare : PySem.W.subIn K (.ref CBadBook) (.ref CBadShare) = some false)
    (neBadShare : CBadBook ≠ CBadShare)
    (noBadText : PySem.W.subIn K (.ref CBadBook) (.ref CBadText) = some false)
    (neBadText : CBadBook ≠ CBadText)
    (noBadMove : PySem.W.subIn K (.ref CBadBook) (.ref CBadMove) = some false)
    (neBadMove : CBadBook ≠ CBadMove)
    (noBadProgram : PySem.W.subIn K (.ref CBadBook) (.ref CBadProgram) = some false)
    (neBadProgram : CBadBook ≠ CBadProgram)
    (noBadPlan : PySem.W.subIn K (.ref CBadBook) (.ref CBadPlan) = some false)
    (neBadPlan : CBadBook ≠ CBadPlan)
    (noUnfit : PySem.W.subIn K (.ref CBadBook) (.ref CUnfit) = some false)
    (neUnfit : CBadBook ≠ CUnfit)
    (noTooLarge : PySem.W.subIn K (.ref CBadBook) (.ref CTooLarge) = some false)
    (neTooLarge : CBadBook ≠ CTooLarge)
    (noBadEdit : PySem.W.subIn K (.ref CBadBook) (.ref CBadEdit) = some false)
    (neBadEdit : CBadBook ≠ CBadEdit)
    (g_LETTERS : PySem.W.nsIn K mainGlobals "LETTERS" = some (some (.str "abcdefghijklmnopqrstuvwxyz" tk_LETTERS)))
    (g_DIGITS : PySem.W.nsIn K mainGlobals "DIGITS" = some (some (.str "0123456789" tk_DIGITS)))
    (g_MOST_NAME_CHARACTERS : PySem.W.nsIn K mainGlobals "MOST_NAME_CHARACTERS" = some (some (.int 20 tk_MOST_NAME_CHARACTERS)))
    (g_MOST_STATES : PySem.W.nsIn K mainGlobals "MOST_STATES" = some (some (.int 600 tk_MOST_STATES)))
    (g_MOST_OPTIONS : PySem.W.nsIn K mainGlobals "MOST_OPTIONS" = some (some (.int 4 tk_MOST_OPTIONS)))
    (g_VALUE_LIMIT : PySem.W.nsIn K mainGlobals "VALUE_LIMIT" = some (some (.int 8 tk_VALUE_LIMIT))) :
    ∃ fd : FuncData, (∀ (s : Shared) (v : Value), BindsTo s fd ⟨[v], []⟩ [("script", v)]) ∧ ∀ base : Heap, K.In base → base.Ns mainGlobals mg → FnOk P w K mg base CX0 11 fa fd ["script"] (spLaw K) := by
  have e := hfa.symm.trans (PySem.W.mg_of X G a_law)
  cases e
  have T : Txt K mg CPlainBook COddsError CBadShare CBadText CBadBook CBadMove CBadProgram CBadPlan CUnfit CTooLarge CBadEdit := {
  d_l_int := df_of X G a_l_int l_l_int c_l_int k_l_int
  d_l_pool := df_of X G a_l_pool l_l_pool c_l_pool k_l_pool
  d_l_stirred := df_of X G a_l_stirred l_l_stirred c_l_stirred k_l_stirred
  d_l_draw := df_of X G a_l_draw l_l_draw c_l_draw k_l_draw
  d_law := df_of X G a_law l_law c_law k_law
  d_is_name := df_of X G a_is_name l_is_name c_is_name k_is_name
  d_check_choice := df_of X G a_check_choice l_check_choice c_check_choice k_check_choice
  d_grouped_options := df_of X G a_grouped_options l_grouped_options c_grouped_options k_grouped_options
  d_l_same := df_of X G a_l_same l_l_same c_l_same k_l_same
  d_l_name := df_of X G a_l_name l_l_name c_l_name k_l_name
  d_l_names := df_of X G a_l_names l_l_names c_l_names k_l_names
  d_l_odd_name := df_of X G a_l_odd_name l_l_odd_name c_l_odd_name k_l_odd_name
  d_l_is_name := df_of X G a_l_is_name l_l_is_name c_l_is_name k_l_is_name
  d_l_book := df_of X G a_l_book l_l_book c_l_book k_l_book
  d_l_more_options := df_of X G a_l_more_options l_l_more_options c_l_more_options k_l_more_options
  d_l_bent := df_of X G a_l_bent l_l_bent c_l_bent k_l_bent
  d_l_is_book := df_of X G a_l_is_book l_l_is_book c_l_is_book k_l_is_book
  d_l_handed := df_of X G a_l_handed l_l_handed c_l_handed k_l_handed
  d_l_spoil := df_of X G a_l_spoil l_l_spoil c_l_spoil k_l_spoil
  d_l_refused := df_of X G a_l_refused l_l_refused c_l_refused k_l_refused
  d_l_options_hold := df_of X G a_l_options_hold l_l_options_hold c_l_options_hold k_l_options_hold
  d_l_keeps := df_of X G a_l_keeps l_l_keeps c_l_keeps k_l_keeps
  d_l_keys := df_of X G a_l_keys l_l_keys c_l_keys k_l_keys
  d_l_book_holds := df_of X G a_l_book_holds l_l_book_holds c_l_book_holds k_l_book_holds
  n_isinstance := PySem.W.mg_none_of X G z_isinstance
  n_int := PySem.W.mg_none_of X G z_int
  n_bool := PySem.W.mg_none_of X G z_bool
  n_str := PySem.W.mg_none_of X G z_str
  n_tuple := PySem.W.mg_none_of X G z_tuple
  n_list := PySem.W.mg_none_of X G z_list
  n_len := PySem.W.mg_none_of X G z_len
  n_abs := PySem.W.mg_none_of X G z_abs
  n_max := PySem.W.mg_none_of X G z_max
  n_min := PySem.W.mg_none_of X G z_min
  n_range := PySem.W.mg_none_of X G z_range
  n_ValueError := PySem.W.mg_none_of X G z_ValueError
  d_PlainBook_options := dm_of a_PlainBook_options i_PlainBook_options l_PlainBook_options c_PlainBook_options k_PlainBook_options
  e_OddsError := ⟨PySem.W.mg_of X G gCOddsError, kCOddsError, bCOddsError, tCOddsError, ⟨gaCOddsError, gbCOddsError, bCOddsError, hdCOddsError, clCOddsError, hn0, ht0, mrCOddsError⟩⟩
  e_BadShare := ⟨PySem.W.mg_of X G gCBadShare, kCBadShare, bCBadShare, tCBadShare, ⟨gaCBadShare, gbCBadShare, bCBadShare, hdCBadShare, clCBadShare, hn0, ht0, mrCBadShare⟩⟩
  e_BadText := ⟨PySem.W.mg_of X G gCBadText, kCBadText, bCBadText, tCBadText, ⟨gaCBadText, gbCBadText, bCBadText, hdCBadText, clCBadText, hn0, ht0, mrCBadText⟩⟩
  e_BadBook := ⟨PySem.W.mg_of X G gCBadBook, kCBadBook, bCBadBook, tCBadBook, ⟨gaCBadBook, gbCBadBook, bCBadBook, hdCBadBook, clCBadBook, hn0, ht0, mrCBadBook⟩⟩
  e_BadMove := ⟨PySem.W.mg_of X G gCBadMove, kCBadMove, bCBadMove, tCBadMove, ⟨gaCBadMove, gbCBadMove, bCBadMove, hdCBadMove, clCBadMove, hn0, ht0, mrCBadMove⟩⟩
  e_BadProgram := ⟨PySem.W.mg_of X G gCBadProgram, kCBadProgram, bCBadProgram, tCBadProgram, ⟨gaCBadProgram, gbCBadProgram, bCBadProgram, hdCBadProgram, clCBadProgram, hn0, ht0, mrCBadProgram⟩⟩
  e_BadPlan := ⟨PySem.W.mg_of X G gCBadPlan, kCBadPlan, bCBadPlan, tCBadPlan, ⟨gaCBadPlan, gbCBadPlan, bCBadPlan, hdCBadPlan, clCBadPlan, hn0, ht0, mrCBadPlan⟩⟩
  e_Unfit := ⟨PySem.W.mg_of X G gCUnfit, kCUnfit, bCUnfit, tCUnfit, ⟨gaCUnfit, gbCUnfit, bCUnfit, hdCUnfit, clCUnfit, hn0, ht0, mrCUnfit⟩⟩
  e_TooLarge := ⟨PySem.W.mg_of X G gCTooLarge, kCTooLarge, bCTooLarge, tCTooLarge, ⟨gaCTooLarge, gbCTooLarge, bCTooLarge, hdCTooLarge, clCTooLarge, hn0, ht0, mrCTooLarge⟩⟩
  e_BadEdit := ⟨PySem.W.mg_of X G gCBadEdit, kCBadEdit, bCBadEdit, tCBadEdit, ⟨gaCBadEdit, gbCBadEdit, bCBadEdit, hdCBadEdit, clCBadEdit, hn0, ht0, mrCBadEdit⟩⟩
  pb := ⟨PySem.W.mg_of X G gCPlainBook, ⟨Spg, Shd, Spo, Ssa⟩, Sn1, Sn2, Sn3, Sn4⟩
  d_init := ⟨f_init, _, ⟨Smk, a_init, i_init, Skp⟩, fun_mk l_init c_init k_init⟩
  d_det := ⟨p_det, f_det, _, ⟨at_det, gt_det, tk_det, ⟨_, rc_det⟩⟩, fun_mk l_det c_det k_det⟩
  x_BadBook := xBB
  up := up
  upV := upV
  no_BadShare := ⟨noBadShare, neBadShare⟩
  no_BadText := ⟨noBadText, neBadText⟩
  no_BadMove := ⟨noBadMove, neBadMove⟩
  no_BadProgram := ⟨noBadProgram, neBadProgram⟩
  no_BadPlan := ⟨noBadPlan, neBadPlan⟩
  no_Unfit := ⟨noUnfit, neUnfit⟩
  no_TooLarge := ⟨noTooLarge, neTooLarge⟩
  no_BadEdit := ⟨noBadEdit, neBadEdit⟩
  g_LETTERS := ⟨_, PySem.W.mg_of X G g_LETTERS, ⟨_, rfl⟩⟩
  g_DIGITS := ⟨_, PySem.W.mg_of X G g_DIGITS, ⟨_, rfl⟩⟩
  g_MOST_NAME_CHARACTERS := ⟨_, PySem.W.mg_of X G g_MOST_NAME_CHARACTERS, ⟨_, rfl⟩⟩
  g_MOST_STATES := ⟨_, PySem.W.mg_of X G g_MOST_STATES, ⟨_, rfl⟩⟩
  g_MOST_OPTIONS := ⟨_, PySem.W.mg_of X G g_MOST_OPTIONS, ⟨_, rfl⟩⟩
  g_VALUE_LIMIT := ⟨_, PySem.W.mg_of X G g_VALUE_LIMIT, ⟨_, rfl⟩⟩ }
  exact ⟨_, fun s v => .of_eq rfl, fun base _ _ => ok_law T (fun_mk (st := s_law) l_law c_law k_law)⟩
theorem walk {l : PySem.W.OpenLaw} {q : Program} {loose : List Str} {XP : (Str → Option Value) → Heap → Prop} {YP : World → Heap → Prop} {d : DefRec} {K : Params → PySem.W.Frag} (hn : l.most = some 63) (hdf : d.params.defaults = [])
    (hY : ∀ (w : World) (h : Heap), YP w h → (K w.params).In h)
    (F : ∀ (w : World) (mg : Str → Option Value) (fa : Addr) (h : Heap), (K w.params).In h → h.Ns mainGlobals mg → mg d.name = some (.ref fa) →
      ∃ fd : FuncData, (∀ (s : Shared) (u : Value), BindsTo s fd ⟨[u], []⟩ [("script", u)]) ∧ ∀ base : Heap, (K w.params).In base → base.Ns mainGlobals mg → FnOk l.prog w (K w.params) mg base CX0 11 fa fd ["script"] (spLaw (K w.params))) :
    PySem.W.WalkO q loose XP YP l.row.toRowW d [] (fun f vs => PySem.call f vs) :=
  L2.walk_of (n := 63) (k := 11) (x := "script") (CX := fun _ => CX0) (sp := fun w => spLaw (K w.params)) hn (by decide) hdf ⟨rfl, by decide, by decide⟩ hY F (fun w H a ns hl hO hS => ⟨a, ns, rfl, Scr.of hO hS, fun _ => rfl⟩) fun _ _ _ _ _ z => z
end My

open PySem PySem.W PyProof.Rows in
set_option maxRecDepth 100000 in
set_option maxHeartbeats 0 in
theorem PySem.Challenge.cw_oddskept_k03_plain_books_holds : PySem.Challenge.rw_oddskept_k03_plain_books.Holds := by
  w_on; o_law; k_head; (case hw => w_witness2)
  k_fill
  refine My.walk (l := PySem.Challenge.rw_oddskept_k03_plain_books) rfl rfl (fun w h Y => PySem.W.kIn_of Y) ?F
  case F =>
    intro w mg fa h KX G hmg
    refine' My.mk_all KX G hmg ?gCPlainBook ?gCOddsError ?gCBadShare ?gCBadText ?gCBadBook ?gCBadMove ?gCBadProgram ?gCBadPlan ?gCUnfit ?gCTooLarge ?gCBadEdit ?hn0 ?ht0 ?a_l_int ?l_l_int ?c_l_int ?k_l_int ?a_l_pool ?l_l_pool ?c_l_pool ?k_l_pool ?a_l_stirred ?l_l_stirred ?c_l_stirred ?k_l_stirred ?a_l_draw ?l_l_draw ?c_l_draw ?k_l_draw ?a_law ?l_law ?c_law ?k_law ?a_is_name ?l_is_name ?c_is_name ?k_is_name ?a_check_choice ?l_check_choice ?c_check_choice ?k_check_choice ?a_grouped_options ?l_grouped_options ?c_grouped_options ?k_grouped_options ?a_l_same ?l_l_same ?c_l_same ?k_l_same ?a_l_name ?l_l_name ?c_l_name ?k_l_name ?a_l_names ?l_l_names ?c_l_names ?k_l_names ?a_l_odd_name ?l_l_odd_name ?c_l_odd_name ?k_l_odd_name ?a_l_is_name ?l_l_is_name ?c_l_is_name ?k_l_is_name ?a_l_book ?l_l_book ?c_l_book ?k_l_book ?a_l_more_options ?l_l_more_options ?c_l_more_options ?k_l_more_options ?a_l_bent ?l_l_bent ?c_l_bent ?k_l_bent ?a_l_is_book ?l_l_is_book ?c_l_is_book ?k_l_is_book ?a_l_handed ?l_l_handed ?c_l_handed ?k_l_handed ?a_l_spoil ?l_l_spoil ?c_l_spoil ?k_l_spoil ?a_l_refused ?l_l_refused ?c_l_refused ?k_l_refused ?a_l_options_hold ?l_l_options_hold ?c_l_options_hold ?k_l_options_hold ?a_l_keeps ?l_l_keeps ?c_l_keeps ?k_l_keeps ?a_l_keys ?l_l_keys ?c_l_keys ?k_l_keys ?a_l_book_holds ?l_l_book_holds ?c_l_book_holds ?k_l_book_holds ?z_isinstance ?z_int ?z_bool ?z_str ?z_tuple ?z_list ?z_len ?z_abs ?z_max ?z_min ?z_range ?z_ValueError ?a_PlainBook_options ?i_PlainBook_options ?l_PlainBook_options ?c_PlainBook_options ?k_PlainBook_options ?kCOddsError ?bCOddsError ?tCOddsError ?gaCOddsError ?gbCOddsError ?hdCOddsError ?clCOddsError ?mrCOddsError ?kCBadShare ?bCBadShare ?tCBadShare ?gaCBadShare ?gbCBadShare ?hdCBadShare ?clCBadShare ?mrCBadShare ?kCBadText ?bCBadText ?tCBadText ?gaCBadText ?gbCBadText ?hdCBadText ?clCBadText ?mrCBadText ?kCBadBook ?bCBadBook ?tCBadBook ?gaCBadBook ?gbCBadBook ?hdCBadBook ?clCBadBook ?mrCBadBook ?kCBadMove ?bCBadMove ?tCBadMove ?gaCBadMove ?gbCBadMove ?hdCBadMove ?clCBadMove ?mrCBadMove ?kCBadProgram ?bCBadProgram ?tCBadProgram ?gaCBadProgram ?gbCBadProgram ?hdCBadProgram ?clCBadProgram ?mrCBadProgram ?kCBadPlan ?bCBadPlan ?tCBadPlan ?gaCBadPlan ?gbCBadPlan ?hdCBadPlan ?clCBadPlan ?mrCBadPlan ?kCUnfit ?bCUnfit ?tCUnfit ?gaCUnfit ?gbCUnfit ?hdCUnfit ?clCUnfit ?mrCUnfit ?kCTooLarge ?bCTooLarge ?tCTooLarge ?gaCTooLarge ?gbCTooLarge ?hdCTooLarge ?clCTooLarge ?mrCTooLarge ?kCBadEdit ?bCBadEdit ?tCBadEdit ?gaCBadEdit ?gbCBadEdit ?hdCBadEdit ?clCBadEdit ?mrCBadEdit ?Spg ?Shd ?Spo ?Ssa ?Sn1 ?Sn2 ?Sn3 ?Sn4 ?Smk ?Skp ?a_init ?i_init ?l_init ?c_init ?k_init ?at_det ?rc_det ?gt_det ?tk_det ?l_det ?c_det ?k_det ?xBB ?up ?upV ?noBadShare ?neBadShare ?noBadText ?neBadText ?noBadMove ?neBadMove ?noBadProgram ?neBadProgram ?noBadPlan ?neBadPlan ?noUnfit ?neUnfit ?noTooLarge ?neTooLarge ?noBadEdit ?neBadEdit ?g_LETTERS ?g_DIGITS ?g_MOST_NAME_CHARACTERS ?g_MOST_STATES ?g_MOST_OPTIONS ?g_VALUE_LIMIT
    (case gCPlainBook => k_is)
    (case gCOddsError => k_is)
    (case gCBadShare => k_is)
    (case gCBadText => k_is)
    (case gCBadBook => k_is)
    (case gCBadMove => k_is)
    (case gCBadProgram => k_is)
    (case gCBadPlan => k_is)
    (case gCUnfit => k_is)
    (case gCTooLarge => k_is)
    (case gCBadEdit => k_is)
    (case hn0 => k_is)
    (case ht0 => k_is)
    (case a_l_int => k_is)
    (case l_l_int => k_is)
    (case c_l_int => k_is)
    (case k_l_int => k_is)
    (case a_l_pool => k_is)
    (case l_l_pool => k_is)
    (case c_l_pool => k_is)
    (case k_l_pool => k_is)
    (case a_l_stirred => k_is)
    (case l_l_stirred => k_is)
    (case c_l_stirred => k_is)
    (case k_l_stirred => k_is)
    (case a_l_draw => k_is)
    (case l_l_draw => k_is)
    (case c_l_draw => k_is)
    (case k_l_draw => k_is)
    (case a_law => k_is)
    (case l_law => k_is)
    (case c_law => k_is)
    (case k_law => k_is)
    (case a_is_name => k_is)
    (case l_is_name => k_is)
    (case c_is_name => k_is)
    (case k_is_name => k_is)
    (case a_check_choice => k_is)
    (case l_check_choice => k_is)
    (case c_check_choice => k_is)
    (case k_check_choice => k_is)
    (case a_grouped_options => k_is)
    (case l_grouped_options => k_is)
    (case c_grouped_options => k_is)
    (case k_grouped_options => k_is)
    (case a_l_same => k_is)
    (case l_l_same => k_is)
    (case c_l_same => k_is)
    (case k_l_same => k_is)
    (case a_l_name => k_is)
    (case l_l_name => k_is)
    (case c_l_name => k_is)
    (case k_l_name => k_is)
    (case a_l_names => k_is)
    (case l_l_names => k_is)
    (case c_l_names => k_is)
    (case k_l_names => k_is)
    (case a_l_odd_name => k_is)
    (case l_l_odd_name => k_is)
    (case c_l_odd_name => k_is)
    (case k_l_odd_name => k_is)
    (case a_l_is_name => k_is)
    (case l_l_is_name => k_is)
    (case c_l_is_name => k_is)
    (case k_l_is_name => k_is)
    (case a_l_book => k_is)
    (case l_l_book => k_is)
    (case c_l_book => k_is)
    (case k_l_book => k_is)
    (case a_l_more_options => k_is)
    (case l_l_more_options => k_is)
    (case c_l_more_options => k_is)
    (case k_l_more_options => k_is)
    (case a_l_bent => k_is)
    (case l_l_bent => k_is)
    (case c_l_bent => k_is)
    (case k_l_bent => k_is)
    (case a_l_is_book => k_is)
    (case l_l_is_book => k_is)
    (case c_l_is_book => k_is)
    (case k_l_is_book => k_is)
    (case a_l_handed => k_is)
    (case l_l_handed => k_is)
    (case c_l_handed => k_is)
    (case k_l_handed => k_is)
    (case a_l_spoil => k_is)
    (case l_l_spoil => k_is)
    (case c_l_spoil => k_is)
    (case k_l_spoil => k_is)
    (case a_l_refused => k_is)
    (case l_l_refused => k_is)
    (case c_l_refused => k_is)
    (case k_l_refused => k_is)
    (case a_l_options_hold => k_is)
    (case l_l_options_hold => k_is)
    (case c_l_options_hold => k_is)
    (case k_l_options_hold => k_is)
    (case a_l_keeps => k_is)
    (case l_l_keeps => k_is)
    (case c_l_keeps => k_is)
    (case k_l_keeps => k_is)
    (case a_l_keys => k_is)
    (case l_l_keys => k_is)
    (case c_l_keys => k_is)
    (case k_l_keys => k_is)
    (case a_l_book_holds => k_is)
    (case l_l_book_holds => k_is)
    (case c_l_book_holds => k_is)
    (case k_l_book_holds => k_is)
    (case z_isinstance => k_is)
    (case z_int => k_is)
    (case z_bool => k_is)
    (case z_str => k_is)
    (case z_tuple => k_is)
    (case z_list => k_is)
    (case z_len => k_is)
    (case z_abs => k_is)
    (case z_max => k_is)
    (case z_min => k_is)
    (case z_range => k_is)
    (case z_ValueError => k_is)
    (case a_PlainBook_options => k_is)
    (case i_PlainBook_options => k_is)
    (case l_PlainBook_options => k_is)
    (case c_PlainBook_options => k_is)
    (case k_PlainBook_options => k_is)
    (case kCOddsError => k_is)
    (case bCOddsError => k_is)
    (case tCOddsError => k_is)
    (case gaCOddsError => k_is)
    (case gbCOddsError => k_is)
    (case hdCOddsError => k_is)
    (case clCOddsError => k_is)
    (case mrCOddsError => k_is)
    (case kCBadShare => k_is)
    (case bCBadShare => k_is)
    (case tCBadShare => k_is)
    (case gaCBadShare => k_is)
    (case gbCBadShare => k_is)
    (case hdCBadShare => k_is)
    (case clCBadShare => k_is)
    (case mrCBadShare => k_is)
    (case kCBadText => k_is)
    (case bCBadText => k_is)
    (case tCBadText => k_is)
    (case gaCBadText => k_is)
    (case gbCBadText => k_is)
    (case hdCBadText => k_is)
    (case clCBadText => k_is)
    (case mrCBadText => k_is)
    (case kCBadBook => k_is)
    (case bCBadBook => k_is)
    (case tCBadBook => k_is)
    (case gaCBadBook => k_is)
    (case gbCBadBook => k_is)
    (case hdCBadBook => k_is)
    (case clCBadBook => k_is)
    (case mrCBadBook => k_is)
    (case kCBadMove => k_is)
    (case bCBadMove => k_is)
    (case tCBadMove => k_is)
    (case gaCBadMove => k_is)
    (case gbCBadMove => k_is)
    (case hdCBadMove => k_is)
    (case clCBadMove => k_is)
    (case mrCBadMove => k_is)
    (case kCBadProgram => k_is)
    (case bCBadProgram => k_is)
    (case tCBadProgram => k_is)
    (case gaCBadProgram => k_is)
    (case gbCBadProgram => k_is)
    (case hdCBadProgram => k_is)
    (case clCBadProgram => k_is)
    (case mrCBadProgram => k_is)
    (case kCBadPlan => k_is)
    (case bCBadPlan => k_is)
    (case tCBadPlan => k_is)
    (case gaCBadPlan => k_is)
    (case gbCBadPlan => k_is)
    (case hdCBadPlan => k_is)
    (case clCBadPlan => k_is)
    (case mrCBadPlan => k_is)
    (case kCUnfit => k_is)
    (case bCUnfit => k_is)
    (case tCUnfit => k_is)
    (case gaCUnfit => k_is)
    (case gbCUnfit => k_is)
    (case hdCUnfit => k_is)
    (case clCUnfit => k_is)
    (case mrCUnfit => k_is)
    (case kCTooLarge => k_is)
    (case bCTooLarge => k_is)
    (case tCTooLarge => k_is)
    (case gaCTooLarge => k_is)
    (case gbCTooLarge => k_is)
    (case hdCTooLarge => k_is)
    (case clCTooLarge => k_is)
    (case mrCTooLarge => k_is)
    (case kCBadEdit => k_is)
    (case bCBadEdit => k_is)
    (case tCBadEdit => k_is)
    (case gaCBadEdit => k_is)
    (case gbCBadEdit => k_is)
    (case hdCBadEdit => k_is)
    (case clCBadEdit => k_is)
    (case mrCBadEdit => k_is)
    (case Spg => k_is)
    (case Shd => k_is)
    (case Spo => k_is)
    (case Ssa => k_is)
    (case Sn1 => k_is)
    (case Sn2 => k_is)
    (case Sn3 => k_is)
    (case Sn4 => k_is)
    (case Smk => k_is)
    (case Skp => k_is)
    (case a_init => k_is)
    (case i_init => k_is)
    (case l_init => k_is)
    (case c_init => k_is)
    (case k_init => k_is)
    (case at_det => k_is)
    (case rc_det => k_is)
    (case gt_det => k_is)
    (case tk_det => k_is)
    (case l_det => k_is)
    (case c_det => k_is)
    (case k_det => k_is)
    (case xBB => k_exc)
    (case up => k_is)
    (case upV => k_is)
    (case noBadShare => k_is)
    (case neBadShare => decide)
    (case noBadText => k_is)
    (case neBadText => decide)
    (case noBadMove => k_is)
    (case neBadMove => decide)
    (case noBadProgram => k_is)
    (case neBadProgram => decide)
    (case noBadPlan => k_is)
    (case neBadPlan => decide)
    (case noUnfit => k_is)
    (case neUnfit => decide)
    (case noTooLarge => k_is)
    (case neTooLarge => decide)
    (case noBadEdit => k_is)
    (case neBadEdit => decide)
    (case g_LETTERS => k_is)
    (case g_DIGITS => k_is)
    (case g_MOST_NAME_CHARACTERS => k_is)
    (case g_MOST_STATES => k_is)
    (case g_MOST_OPTIONS => k_is)
    (case g_VALUE_LIMIT => k_is)

