import PyProof.Rows.All
import Wide.All
import OpenK.AllK
import Wide.FinOn
import HandS.ForMost
import HandS.ForExc
import HandS.IsInst
import HandS.Wide
import HandS.WideBits
import HandS.Gcd
import HandS.Defaults
import HandS.MakeKw
import HandS.Codes
import HandS.ExcIs
import HandS.EndBits
import HandS.Conv
import PySem.Challenge.RW_oddskept_k01_shares_product
set_option Elab.async false
set_option linter.all false
set_option autoImplicit false
set_option maxRecDepth 100000
set_option maxHeartbeats 4000000
namespace U
open PySem PySem.Spec PyProof.Rows L2

/-! ## heaps -/
/-- all but what is named in M stands as it stood -/
def Kp (M : List Addr) (H H' : Hp) : Prop := ∀ b o, b ∉ M → H b = some o → H' b = some o
section
variable {M N : List Addr} {H H' H0 H1 : Hp} {p a b : Addr} {o u : HO}
theorem Kp.refl : Kp M H H := fun _ _ _ e => e
theorem Kp.trans (k : Kp M H H1) (k' : Kp M H1 H') : Kp M H H' := fun b o n e => k' b o n (k b o n e)
theorem Kp.get0 (k : Kp [] H H') (e : H a = some o) : H' a = some o := k a o (by simp) e
theorem Kp.get1 (k : Kp [p] H H') (n : a ≠ p) (e : H a = some o) : H' a = some o := k a o (by simpa using n) e
theorem Kp.of0 (k : Kp [] H H') : Kp M H H' := fun b o _ e => k b o (by simp) e
theorem Kp.new (n : H p = none) : Kp M H (upd H p o) := fun b u _ e => by rw [upd_ne (ne_of_none e n)]; exact e
theorem Kp.mut : Kp [p] H (upd H p o) := fun b u n e => by rw [upd_ne (by simpa using n)]; exact e
/-- what changes was not there at the beginning -/
theorem Kp.low (k : Kp M H0 H) (k1 : Kp [p] H H1) (n : H0 p = none) : Kp M H0 H1 := fun b o nb e => by
  refine k1 b o ?_ (k b o nb e)
  intro z
  have z' : b = p := by simpa using z
  rw [z', n] at e; cases e
theorem Kp.one (k : Kp [p] H0 H) (k1 : Kp [] H H1) : Kp [p] H0 H1 := k.trans k1.of0
theorem Kp.free (k : Kp [] H H') (n : H' p = none) : H p = none := by
  cases e : H p with
  | none => rfl
  | some o => rw [k.get0 e] at n; cases n
theorem Kp.ne_new (k : Kp M H H') (n : H' p = none) (e : H a = some o) (nm : a ∉ M) : a ≠ p := ne_of_none (k a o nm e) n
end

/-! ## steps -/
section
variable {σ : L2.St} {H : Hp} {Q : VK} {D : Ends} {ta tb te : TE} {t : TA} {K : PySem.W.Frag} {E : XK}
theorem u_var {i : Nat} {v : V} (h : σ[i]? = some (some v)) (q : Q v H) : tVar i σ H Q := ⟨v, h, q⟩
theorem u_c {v : V} (q : Q v H) : tC v σ H Q := q
theorem u_op {r : R2} (h : ta σ H fun x H1 => tb σ H1 fun y H2 => r x y H2 Q) : tOp r ta tb σ H Q := h
theorem u_un {r : V → Hp → VK → Prop} (h : ta σ H fun x H1 => r x H1 Q) : tUn r ta σ H Q := h
theorem u_I0 {g : Int → Int → V} {i j : Int} (q : Q (g i j) H) : rI0 g (.int i) (.int j) H Q := ⟨i, j, rfl, rfl, q⟩
theorem u_I {C : Int → Int → Prop} {g : Int → Int → V} {i j : Int} (c : C i j) (q : Q (g i j) H) : rI C g (.int i) (.int j) H Q := ⟨i, j, rfl, rfl, c, q⟩
theorem u_U {g : Int → V} {i : Int} (q : Q (g i) H) : rU g (.int i) H Q := ⟨i, rfl, q⟩
theorem u_cb {r : List V → Hp → VK → Prop} (h : t σ H fun vs H1 => r vs H1 Q) : tCB r t σ H Q := h
theorem u_nil {Q : List V → Hp → Prop} (q : Q [] H) : tNil σ H Q := q
theorem u_cons {Q : List V → Hp → Prop} {tr : TA} (h : ta σ H fun x H1 => tr σ H1 fun xs H2 => Q (x :: xs) H2) : tCons ta tr σ H Q := h
theorem u_call {sp : Sp} (h : t σ H fun vs H1 => sp (vs ++ []) H1 Q E) : tCall sp [] E t σ H Q := h
theorem u_eq {x y : V} (h : scal x y = true) (q : Q (.bl (decide (x = y))) H) : rEq x y H Q := ⟨h, q⟩
theorem u_ne {x y : V} (h : scal x y = true) (q : Q (.bl (!decide (x = y))) H) : rNe x y H Q := ⟨h, q⟩
theorem dI {i j : Int} : decide (V.int i = V.int j) = decide (i = j) := by
  by_cases h : i = j <;> simp [h]
theorem dB {i j : Bool} : decide (V.bl i = V.bl j) = decide (i = j) := by
  by_cases h : i = j <;> simp [h]
theorem dS {i j : Str} : decide (V.str i = V.str j) = decide (i = j) := by
  by_cases h : i = j <;> simp [h]
theorem u_eqI {i j : Int} (q : Q (.bl (decide (i = j))) H) : rEq (.int i) (.int j) H Q := ⟨rfl, by rw [dI]; exact q⟩
theorem u_neI {i j : Int} (q : Q (.bl (!decide (i = j))) H) : rNe (.int i) (.int j) H Q := ⟨rfl, by rw [dI]; exact q⟩
theorem u_eqB {i j : Bool} (q : Q (.bl (decide (i = j))) H) : rEq (.bl i) (.bl j) H Q := ⟨rfl, by rw [dB]; exact q⟩
theorem u_eqS {i j : Str} (q : Q (.bl (decide (i = j))) H) : rEq (.str i) (.str j) H Q := ⟨rfl, by rw [dS]; exact q⟩
theorem u_neS {i j : Str} (q : Q (.bl (!decide (i = j))) H) : rNe (.str i) (.str j) H Q := ⟨rfl, by rw [dS]; exact q⟩

/-! tests -/
def Br (b : Bool) (A B : Hp → Prop) (H : Hp) : Prop := if b = true then A H else B H
def TB (x : V) (Q : Bool → Hp → Prop) (H : Hp) : Prop := ∃ k, x = .bl k ∧ Q k H
theorem u_tb {k : Bool} {Q : Bool → Hp → Prop} (q : Q k H) : TB (.bl k) Q H := ⟨k, rfl, q⟩
theorem u_test {Q : Bool → Hp → Prop} (h : te σ H fun x H' => TB x Q H') : tTest te σ H Q := h
theorem u_tB {Q : Bool → Hp → Prop} (h : te σ H fun x H' => TB x Q H') : tB te σ H Q := h
theorem u_and {a b : TT} {Q : Bool → Hp → Prop} (h : a σ H fun c H1 => Br c (fun H2 => b σ H2 Q) (fun H2 => Q false H2) H1) : tAnd a b σ H Q := h
theorem u_or {a b : TT} {Q : Bool → Hp → Prop} (h : a σ H fun c H1 => Br c (fun H2 => Q true H2) (fun H2 => b σ H2 Q) H1) : tOr a b σ H Q := h
theorem u_not {a : TT} {Q : Bool → Hp → Prop} (h : a σ H fun c H1 => Q (!c) H1) : tNot a σ H Q := h
theorem u_andV (h : ta σ H fun x H1 => TB x (fun c H2 => Br c (fun H3 => tb σ H3 Q) (fun H3 => Q (.bl false) H3) H2) H1) : tAndV ta tb σ H Q := h
theorem u_orV (h : ta σ H fun x H1 => TB x (fun c H2 => Br c (fun H3 => Q (.bl true) H3) (fun H3 => tb σ H3 Q) H2) H1) : tOrV ta tb σ H Q := h
theorem u_notV (h : ta σ H fun x H1 => TB x (fun c H2 => Q (.bl (!c)) H2) H1) : tNotV ta σ H Q := h
theorem u_ifx {c : TT} (h : c σ H fun b H1 => Br b (fun H2 => ta σ H2 Q) (fun H2 => tb σ H2 Q) H1) : tIf c ta tb σ H Q := h
theorem br_t {A B : Hp → Prop} (h : A H) : Br true A B H := h
theorem br_f {A B : Hp → Prop} (h : B H) : Br false A B H := h
theorem br_nt {A B : Hp → Prop} (h : B H) : Br (!true) A B H := h
theorem br_nf {A B : Hp → Prop} (h : A H) : Br (!false) A B H := h
theorem br_d {c : Prop} [Decidable c] {A B : Hp → Prop} (h1 : c → A H) (h2 : ¬ c → B H) : Br (decide c) A B H := by
  by_cases h : c
  · rw [decide_eq_true h]; exact h1 h
  · rw [decide_eq_false h]; exact h2 h
theorem br_n {b : Bool} {A B : Hp → Prop} (h : Br b B A H) : Br (!b) A B H := by cases b <;> exact h
theorem br_b {b : Bool} {A B : Hp → Prop} (h1 : b = true → A H) (h2 : b = false → B H) : Br b A B H := by
  cases b
  · exact h2 rfl
  · exact h1 rfl
theorem br_yes {b : Bool} {A B : Hp → Prop} (e : b = true) (h : A H) : Br b A B H := by rw [e]; exact h
theorem br_no {b : Bool} {A B : Hp → Prop} (e : b = false) (h : B H) : Br b A B H := by rw [e]; exact h

/-! statements -/
theorem u_seq {t u : TS} (h : t { D with nx := u D } σ H) : tSeq t u D σ H := h
theorem u_next (q : D.nx σ H) : tNext D σ H := q
theorem u_asg {g : TG} (h : te σ H fun x H1 => g x σ H1 D.nx) : tAsg te g D σ H := h
theorem u_drop (h : te σ H fun _ H1 => D.nx σ H1) : tDrop te D σ H := h
theorem u_ret (h : te σ H D.rt) : tRet te D σ H := h
theorem u_retN (h : D.rt .non H) : tRetN D σ H := h
theorem u_if {c : TT} {t u : TS} (h : c σ H fun b H1 => Br b (t D σ) (u D σ) H1) : tIfS c t u D σ H := h
theorem u_brk (q : D.bk σ H) : tBreak D σ H := q
theorem u_cont (q : D.ct σ H) : tCont D σ H := q
theorem u_cut {t u : TS} (Mid : L2.St → Hp → Prop) (h1 : t { D with nx := Mid } σ H) (h2 : ∀ σ' H', Mid σ' H' → u D σ' H') : C8.tCut t u D σ H := ⟨Mid, h1, h2⟩
theorem u_par {i j : Nat} {x y : V} (q : D.nx ((σ.set i (some x)).set j (some y)) H) : (∃ v w, [x, y] = [v, w] ∧ D.nx ((σ.set i (some v)).set j (some w)) H) := ⟨x, y, rfl, q⟩
theorem u_tpar {i j : Nat} (h : ta σ H fun x H1 => tb σ H1 fun y H2 => D.nx ((σ.set i (some x)).set j (some y)) H2) : tPar i j (tCons ta (tCons tb tNil)) D σ H := by
  show ta σ H fun x H1 => tb σ H1 fun y H2 => ∃ v w, [x, y] = [v, w] ∧ D.nx ((σ.set i (some v)).set j (some w)) H2
  have e : (fun (x : V) (H1 : Hp) => tb σ H1 fun y H2 => D.nx ((σ.set i (some x)).set j (some y)) H2) = fun x H1 => tb σ H1 fun y H2 => ∃ v w, [x, y] = [v, w] ∧ D.nx ((σ.set i (some v)).set j (some w)) H2 := by
    funext x H1
    congr 1
    funext y H2
    apply propext
    constructor
    · intro q; exact ⟨x, y, rfl, q⟩
    · rintro ⟨v, w, ev, q⟩
      cases ev
      exact q
  rw [← e]
  exact h
theorem g_name {i : Nat} {v : V} {Q : L2.St → Hp → Prop} (q : Q (σ.set i (some v)) H) : gName i v σ H Q := q
theorem g_nil {Q : L2.St → Hp → Prop} (q : Q σ H) : gNil [] σ H Q := ⟨rfl, q⟩
theorem g_cons {g : TG} {u : TGs} {v : V} {r : List V} {Q : L2.St → Hp → Prop} (h : g v σ H fun σ' H' => u r σ' H' Q) : gCons g u (v :: r) σ H Q := ⟨v, r, rfl, h⟩
theorem g_tup {n : Nat} {g : TGs} {a : Addr} {xs : List V} {Q : L2.St → Hp → Prop} (hs : SqT K H a xs) (hl : xs.length = n) (h : g xs σ H Q) : gTup K n g (.ref a) σ H Q := ⟨a, xs, rfl, hs, hl, h⟩
theorem g_sub {to ti : TE} {s : TSet} {v : V} {Q : L2.St → Hp → Prop} (h : to σ H fun o H1 => ti σ H1 fun i H2 => s o i v H2 fun H3 => Q σ H3) : gSub to ti s v σ H Q := h
theorem s_list {p : Addr} {xs : List V} {k : Int} {j : Nat} {v : V} {Q : Hp → Prop} (h : H p = some (.lst xs)) (e : ixN xs.length k = some j) (q : ∀ H', Kp [p] H H' → H' p = some (.lst (xs.set j v)) → Q H') : rSetL (.ref p) (.int k) v H Q :=
  ⟨p, xs, k, j, rfl, rfl, h, e, q _ Kp.mut upd_same⟩

/-! objects made -/
theorem u_tup (h : t σ H fun xs H1 => xs.length ≤ sizeLine ∧ ∀ p, H1 p = none → Q (.ref p) (upd H1 p (.tup xs))) : tTup t σ H Q := h
def NewT (xs : List V) (H : Hp) (Q : VK) : Prop := xs.length ≤ sizeLine ∧ ∀ p, H p = none → Q (.ref p) (upd H p (.tup xs))
def NewL (xs : List V) (H : Hp) (Q : VK) : Prop := xs.length ≤ sizeLine ∧ ∀ p, H p = none → Q (.ref p) (upd H p (.lst xs))
theorem u_tupN (h : t σ H fun xs H1 => NewT xs H1 Q) : tTup t σ H Q := h
theorem u_lstN (h : t σ H fun xs H1 => NewL xs H1 Q) : tLst t σ H Q := h
theorem n_tup {xs : List V} (hl : xs.length ≤ 100000) (k : ∀ p H', H p = none → Kp [] H H' → H' p = some (.tup xs) → Q (.ref p) H') : NewT xs H Q :=
  ⟨Nat.le_trans hl (by decide), fun p hp => k p _ hp (Kp.new hp) upd_same⟩
theorem n_lst {xs : List V} (hl : xs.length ≤ 100000) (k : ∀ p H', H p = none → Kp [] H H' → H' p = some (.lst xs) → Q (.ref p) H') : NewL xs H Q :=
  ⟨Nat.le_trans hl (by decide), fun p hp => k p _ hp (Kp.new hp) upd_same⟩

/-! reads -/
theorem u_ixL {p : Addr} {xs : List V} {i : Int} {v : V} (h : SqL K H p xs) (e : atI xs i = some v) (q : Q v H) : rIxL K (.ref p) (.int i) H Q := ⟨p, xs, i, v, rfl, rfl, h, e, q⟩
theorem u_ixT {p : Addr} {xs : List V} {i : Int} {v : V} (h : SqT K H p xs) (e : atI xs i = some v) (q : Q v H) : rIxT K (.ref p) (.int i) H Q := ⟨p, xs, i, v, rfl, rfl, h, e, q⟩
theorem sql {p : Addr} {xs : List V} (h : H p = some (.lst xs)) : SqL K H p xs := .inl (.inl h)
theorem sqt {p : Addr} {xs : List V} (h : H p = some (.tup xs)) : SqT K H p xs := .inl (.inl h)
theorem u_fld {f : Str} {a C dx : Addr} {fs : List (Str × V)} {v : V} (h : ta σ H fun x H1 => x = .ref a ∧ H1 a = some (.ins C dx fs) ∧ Cls K C ∧ NoAttr K C f ∧ fs.lookup f = some v ∧ Q v H1) (mono : ∀ Q1 Q2 : VK, (∀ x H', Q1 x H' → Q2 x H') → ta σ H Q1 → ta σ H Q2) : tFld K ta f σ H Q :=
  mono _ _ (fun x H' z => ⟨a, C, dx, fs, v, z⟩) h
/-- o.f, o known -/
def FldOf (K : PySem.W.Frag) (f : Str) (x : V) (H : Hp) (Q : VK) : Prop := ∃ a C dx fs v, x = .ref a ∧ H a = some (.ins C dx fs) ∧ Cls K C ∧ NoAttr K C f ∧ fs.lookup f = some v ∧ Q v H
theorem u_fldN {f : Str} (h : ta σ H fun x H1 => FldOf K f x H1 Q) : tFld K ta f σ H Q := h
theorem fld_of {f : Str} {a C dx : Addr} {fs : List (Str × V)} {v : V} (hc : Cls K C) (hn : NoAttr K C f) (h : H a = some (.ins C dx fs)) (hl : fs.lookup f = some v) (q : Q v H) : FldOf K f (.ref a) H Q := ⟨a, C, dx, fs, v, rfl, h, hc, hn, hl, q⟩

/-! built-in calls -/
def rAbs : List V → Hp → VK → Prop := fun xs H Q => ∃ i, xs = [.int i] ∧ Q (.int (if i < 0 then -i else i)) H
def rMax2 : List V → Hp → VK → Prop := fun xs H Q => ∃ i j, xs = [.int i, .int j] ∧ Q (.int (if j > i then j else i)) H
def rMin2 : List V → Hp → VK → Prop := fun xs H Q => ∃ i j, xs = [.int i, .int j] ∧ Q (.int (if j < i then j else i)) H
def rInt1 : List V → Hp → VK → Prop := fun xs H Q => (∃ i, xs = [.int i] ∧ Q (.int i) H) ∨ ∃ k, xs = [.bl k] ∧ Q (.int (if k then 1 else 0)) H
def rLenA (K : PySem.W.Frag) : List V → Hp → VK → Prop := fun xs H Q => ∃ p ys, xs = [.ref p] ∧ (SqL K H p ys ∨ SqT K H p ys) ∧ Q (.int ys.length) H
section
variable {X : Cx}
theorem c_abs : CallR X (.builtin "abs") rAbs := call_abs
theorem c_max2 (hc : X.calm = true) : CallR X (.builtin "max") rMax2 := call_max2 hc
theorem c_min2 (hc : X.calm = true) : CallR X (.builtin "min") rMin2 := call_min2 hc
theorem c_int1 : CallR X (.type "int") rInt1 := call_int1
theorem c_len : CallR X (.builtin "len") (rLenA X.K) := call_len_seq
end
theorem u_abs {i : Int} (q : Q (.int (if i < 0 then -i else i)) H) : rAbs [.int i] H Q := ⟨i, rfl, q⟩
theorem u_max2 {i j : Int} (q : Q (.int (if j > i then j else i)) H) : rMax2 [.int i, .int j] H Q := ⟨i, j, rfl, q⟩
theorem u_min2 {i j : Int} (q : Q (.int (if j < i then j else i)) H) : rMin2 [.int i, .int j] H Q := ⟨i, j, rfl, q⟩
theorem u_int1 {i : Int} (q : Q (.int i) H) : rInt1 [.int i] H Q := .inl ⟨i, rfl, q⟩
theorem u_intB {k : Bool} (q : Q (.int (if k then 1 else 0)) H) : rInt1 [.bl k] H Q := .inr ⟨k, rfl, q⟩
theorem u_lenL {p : Addr} {ys : List V} (h : SqL K H p ys) (q : Q (.int ys.length) H) : rLenA K [.ref p] H Q := ⟨p, ys, rfl, .inl h, q⟩
theorem u_lenT {p : Addr} {ys : List V} (h : SqT K H p ys) (q : Q (.int ys.length) H) : rLenA K [.ref p] H Q := ⟨p, ys, rfl, .inr h, q⟩
theorem u_gcd {a b : Int} (q : Q (.int ((Nat.gcd a.natAbs b.natAbs : Nat) : Int)) H) : rGcd [.int a, .int b] H Q := ⟨a, b, rfl, q⟩
theorem u_isi {x : V} {A B : String} {b : Bool} (ty : TyX K H x (.type A)) (hb : kitB A B = some b) (q : Q (.bl b) H) : rIsi K [x, .ty B] H Q := ⟨x, .ty B, _, _, b, rfl, .ty B, ty, kit_ty hb, q⟩
theorem kB_ii : kitB "int" "int" = some true := by decide +kernel
theorem kB_ib : kitB "int" "bool" = some false := by decide +kernel
theorem kB_bb : kitB "bool" "bool" = some true := by decide +kernel
theorem kB_bi : kitB "bool" "int" = some true := by decide +kernel
theorem kB_ss : kitB "str" "str" = some true := by decide +kernel
theorem kB_sb : kitB "str" "bool" = some false := by decide +kernel
theorem kB_si : kitB "str" "int" = some false := by decide +kernel
theorem kB_is : kitB "int" "str" = some false := by decide +kernel
theorem kB_bs : kitB "bool" "str" = some false := by decide +kernel
theorem u_isi_ii {i : Int} (q : Q (.bl true) H) : rIsi K [.int i, .ty "int"] H Q := u_isi (.base (.int i)) kB_ii q
theorem u_isi_ib {i : Int} (q : Q (.bl false) H) : rIsi K [.int i, .ty "bool"] H Q := u_isi (.base (.int i)) kB_ib q
theorem u_isi_bb {i : Bool} (q : Q (.bl true) H) : rIsi K [.bl i, .ty "bool"] H Q := u_isi (.base (.bl i)) kB_bb q

/-! loops -/
theorem w_by {c : TT} {tb : TS} (Pv : L2.St → Hp → Prop) (μ : L2.St → Hp → Nat) (h0 : Pv σ H)
    (hs : ∀ σ H, Pv σ H → c σ H fun b H1 => Br b (fun H2 => tb { D with nx := fun σ' H' => Pv σ' H' ∧ μ σ' H' < μ σ H, ct := fun σ' H' => Pv σ' H' ∧ μ σ' H' < μ σ H, bk := D.nx } σ H2) (fun H2 => D.nx σ H2) H1)
    (mono : ∀ σ H Q Q', (∀ b H1, Q b H1 → Q' b H1) → c σ H Q → c σ H Q') : tWhile c tb D σ H := while_by Pv μ h0 hs mono
theorem f_list {wi : TI} {g : TG} {tb : TS} {D : Ends} (h : wi σ H fun J H1 => ∃ W : Nat → Nat → L2.St → Hp → Prop, (∃ m, W 0 m σ H1) ∧ ∀ i m σ H, W i m σ H →
      (J.stop i H ∧ D.nx σ H) ∨ (J.go i H ∧ ∃ N : L2.St → Hp → Prop, (∀ σ' H', N σ' H' → ∃ m', m' < m ∧ W (i + 1) m' σ' H') ∧ ∀ x H', J.yld i H x H' → g x σ H' fun σ2 H2 => tb { D with nx := N, ct := N, bk := D.nx } σ2 H2)) : tFor wi g tb D σ H := h
end

/-! ## defs -/
/-- the def st stands as x -/
def Df (K : PySem.W.Frag) (mg : Str → Option Value) (x : Str) (st : Stmt) : Prop := ∃ f fd, mg x = some (.ref f) ∧ Fun K x x st f fd
theorem df_of {K : PySem.W.Frag} {h : Heap} {mg : Str → Option Value} {x : Str} {st : Stmt} {f : Addr} (X : K.In h) (G : h.Ns mainGlobals mg)
    {od an : Option Addr} {sl : Array (Option Value)} {oc kV dc pm cd ct : Value}
    (a : PySem.W.nsIn K mainGlobals x = some (some (.ref f))) (l : K.lookup f = some ⟨oc, od, .func (PySem.W.fnOf x x (defArgs st) (defBody st) (defScope st) .none kV dc pm an cd ct), sl⟩)
    (c : PySem.W.codeIn K cd x = true) (k : PySem.W.keepIn K (.ref f) = true) : Df K mg x st := ⟨f, _, PySem.W.mg_of X G a, fun_mk l c k⟩
/-- the def x keeps the promise sp -/
def Fc (P : Program) (w : World) (K : PySem.W.Frag) (mg : Str → Option Value) (base : Heap) (CX : CXT) (k : Nat) (x : Str) (ps : List Str) (sp : Sp) : Prop :=
  ∃ f fd, FnOk P w K mg base CX k f fd ps sp ∧ mg x = some (.ref f) ∧ PySem.W.keepIn K (.ref f) = true ∧ Binds K fd ps []
section
variable {P : Program} {w : World} {K : PySem.W.Frag} {mg : Str → Option Value} {base : Heap} {x : Str} {st : Stmt} {ps N : List Str} {k : Nat} {sp : Sp}
theorem fc_of (F : Df K mg x st) (S : FnScope N ps (defScope st)) (len : ∀ vs H Q E, sp vs H Q E → vs.length = ps.length)
    (hb : ∀ (kV doc pm : Value) (an : Option Addr) (cdv ct : Value) (us : List Value), us.length = ps.length → bindArgs (PySem.W.fnOf x x (defArgs st) (defBody st) (defScope st) .none kV doc pm an cdv ct) ⟨us, []⟩ = pure (ps.zip us))
    (hbody : ∀ (f : Addr) (cdv : Value) (A : Around) (outer : List Env) (s : Shared) (H : Hp) (vs : List V) (Q : VK) (E : XK), Room k (A.deeper (envOfC x (defScope st) s.heap.objs.size f cdv)) → sp vs H Q E →
      ∃ t, PSs (cxOf CX0 P w K mg base N x (defScope st) f cdv A outer s H E).nox (defBody st) t ∧ t { nx := fun _ H' => Q .non H', rt := Q } (start N vs) H) : Fc P w K mg base CX0 (k + 1) x ps sp := by
  obtain ⟨f, fd, hm, F⟩ := F
  exact ⟨f, fd, F.ok S len (hbody f), hm, F.kp, F.binds hb⟩
theorem fc_ofX (F : Df K mg x st) (S : FnScope N ps (defScope st)) (len : ∀ vs H Q E, sp vs H Q E → vs.length = ps.length)
    (hb : ∀ (kV doc pm : Value) (an : Option Addr) (cdv ct : Value) (us : List Value), us.length = ps.length → bindArgs (PySem.W.fnOf x x (defArgs st) (defBody st) (defScope st) .none kV doc pm an cdv ct) ⟨us, []⟩ = pure (ps.zip us))
    (hbody : ∀ (f : Addr) (cdv : Value) (A : Around) (outer : List Env) (s : Shared) (H : Hp) (vs : List V) (Q : VK) (E : XK), Room k (A.deeper (envOfC x (defScope st) s.heap.objs.size f cdv)) → sp vs H Q E →
      ∃ t, PSs (cxOf (L2.CX P w) P w K mg base N x (defScope st) f cdv A outer s H E) (defBody st) t ∧ t { nx := fun _ H' => Q .non H', rt := Q } (start N vs) H) : Fc P w K mg base (L2.CX P w) (k + 1) x ps sp := by
  obtain ⟨f, fd, hm, F⟩ := F
  exact ⟨f, fd, F.okX S len (hbody f), hm, F.kp, F.binds hb⟩
end
section
variable {X : Cx} {CX : CXT} {k : Nat} {x : Str} {ps : List Str} {sp : Sp} {E : XK} {p pos : Pos} {e : Expr} {es : List Expr} {t : TA}
theorem pe_fc (F : Fc X.prog X.w X.K X.mg X.base CX k x ps sp) (hx : Passes CX X E) (hr : Room k X.A) (ha : PA X (e :: es) t) (hg : Gl X x := by rfl) (hdb : (x == ("__debug__" : Str)) = false := by decide)
    (he : starEach (e :: es) X.env = (false, eval e X.env) :: starEach es X.env := by rfl) (hpl : (backTo pos (starEach es X.env)).any (·.1) = false := by rfl) : PE X (.Call (.Name x p) (e :: es) [] pos) (tCall sp [] E t) := by
  obtain ⟨f, fd, F, hm, hk, hb⟩ := F
  exact pe_call F hr hg hm hk hb .nil hx ha hdb he hpl
end
/-! ## searches -/
section
variable {M : List Addr} {H H' H0 H1 Hk : Hp} {p a b : Addr} {o u : HO}
theorem Kp.low' (k : Kp M H0 H) (k1 : Kp [p] H H1) (n : Hk p = none) (kf : Kp M H0 Hk) : Kp M H0 H1 := fun b o nb e => by
  refine k1 b o ?_ (k b o nb e)
  intro z
  have z' : b = p := by simpa using z
  have q := kf b o nb e
  rw [z', n] at q; cases q
theorem ne_new (h' : H b = none) (h : H a = some o) : a ≠ b := ne_of_none h h'
theorem ne_new' (h' : H b = none) (h : H a = some o) : b ≠ a := (ne_of_none h h').symm
theorem u_app (q : (if a = a then True else False)) : True := trivial
end
/-! ## the pool of draws -/
def Pool (H : Hp) (a : Addr) : Prop := ∃ c x n k : Int, H a = some (.lst [.int c, .int x, .int n, .int k])
theorem Pool.kp0 {H H' : Hp} {a : Addr} (k : Kp [] H H') (h : Pool H a) : Pool H' a := by
  obtain ⟨c, x, n, j, e⟩ := h
  exact ⟨c, x, n, j, k.get0 e⟩
theorem Pool.kp1 {H H' : Hp} {a p : Addr} (k : Kp [p] H H') (hn : a ≠ p) (h : Pool H a) : Pool H' a := by
  obtain ⟨c, x, n, j, e⟩ := h
  exact ⟨c, x, n, j, k.get1 hn e⟩
theorem Pool.ne {H : Hp} {a b : Addr} (h' : H b = none) (h : Pool H a) : a ≠ b := by
  obtain ⟨c, x, n, j, e⟩ := h
  exact ne_of_none e h'
/-- the script: any list of ints that no one writes -/
def Scr (K : PySem.W.Frag) (H : Hp) (a : Addr) (ns : List Int) : Prop := (∃ o, H a = some (.frz o (.lst (ns.map V.int)))) ∨ ∀ H', SqL K H' a (ns.map V.int)
theorem Scr.sq {K : PySem.W.Frag} {H : Hp} {a : Addr} {ns : List Int} (h : Scr K H a ns) : SqL K H a (ns.map V.int) := by
  rcases h with ⟨o, e⟩ | h
  · exact .inl (.inr ⟨o, e⟩)
  · exact h H
theorem Scr.kp0 {K : PySem.W.Frag} {H H' : Hp} {a : Addr} {ns : List Int} (k : Kp [] H H') (h : Scr K H a ns) : Scr K H' a ns := by
  rcases h with ⟨o, e⟩ | h
  · exact .inl ⟨o, k.get0 e⟩
  · exact .inr h
theorem Scr.kp1 {K : PySem.W.Frag} {H H' Hk : Hp} {a p : Addr} {ns : List Int} (k : Kp [p] H H') (n : Hk p = none) (hk : Scr K Hk a ns) (h : Scr K H a ns) : Scr K H' a ns := by
  rcases h with ⟨o, e⟩ | h
  · rcases hk with ⟨o', e'⟩ | hk
    · exact .inl ⟨o, k.get1 (ne_of_none e' n) e⟩
    · exact .inr hk
  · exact .inr h
theorem Scr.of {K : PySem.W.Frag} {H : Hp} {a : Addr} {ns : List Int} (hO : Only H) (h : SqL K H a (ns.map V.int)) : Scr K H a ns := by
  rcases h with (h | ⟨o, h⟩) | h
  · rcases hO a with e | ⟨o, xs, e⟩
    · rw [e] at h; cases h
    · rw [e] at h; cases h
  · exact .inl ⟨o, h⟩
  · exact .inr fun H' => .inr h
/-! ## items -/
theorem atI_int {ns : List Int} {i : Int} (h0 : 0 ≤ i) (h1 : i < ((ns.map V.int).length : Int)) : ∃ z, atI (ns.map V.int) i = some (.int z) := by
  rw [List.length_map] at h1
  have hl : i.toNat < ns.length := by omega
  obtain ⟨n, rfl⟩ : ∃ n : Nat, i = (n : Int) := ⟨i.toNat, by omega⟩
  have hn : n < ns.length := by omega
  refine ⟨ns[n], atI_nat ?_⟩
  rw [List.getElem?_map, List.getElem?_eq_getElem hn]
  rfl
theorem pow_c {i : Int} (h : i.natAbs < 2 ^ 64) {j : Int} (h0 : 0 ≤ j) (h1 : j ≤ 1000000) : CPow i j := ⟨h0, h1, h⟩
theorem item_int {ns : List Int} {i : Nat} {y : V} (h : (ns.map V.int)[i]? = some y) : ∃ z, y = V.int z := by
  rw [List.getElem?_map] at h
  cases e : ns[i]? with
  | none => rw [e] at h; cases h
  | some z => rw [e] at h; exact ⟨z, (Option.some.inj h).symm⟩
/-- a slice of a list -/
def SlLN (K : PySem.W.Frag) (a : Addr) (lo hi : Option Int) (H : Hp) (Q : VK) : Prop := ∃ xs, SqL K H a xs ∧ ∀ p, H p = none → Q (.ref p) (upd H p (.lst (cutV xs lo hi)))
theorem u_slL {K : PySem.W.Frag} {H : Hp} {Q : VK} {a : Addr} {lo hi : Option Int} {xs : List V} (h : SqL K H a xs) (k : ∀ p H', H p = none → Kp [] H H' → H' p = some (.lst (cutV xs lo hi)) → Q (.ref p) H') : rSlL K (.ref a) lo hi H Q :=
  ⟨a, xs, rfl, h, fun p hp => k p _ hp (Kp.new hp) upd_same⟩
theorem u_sl {σ : L2.St} {H : Hp} {Q : VK} {r : V → Option Int → Option Int → Hp → VK → Prop} {te : TE} {tl th : TO} (h : te σ H fun x H1 => tl σ H1 fun l H2 => th σ H2 fun u H3 => r x l u H3 Q) : tSl r te tl th σ H Q := h
theorem u_noPart {σ : L2.St} {H : Hp} {Q : Option Int → Hp → Prop} (q : Q none H) : tNoPart σ H Q := q
def IntQ (x : V) (Q : Option Int → Hp → Prop) (H : Hp) : Prop := ∃ i, x = .int i ∧ Q (some i) H
theorem u_part {σ : L2.St} {H : Hp} {Q : Option Int → Hp → Prop} {t : TE} (h : t σ H fun x H1 => IntQ x Q H1) : tPart t σ H Q := h
theorem u_intq {i : Int} {H : Hp} {Q : Option Int → Hp → Prop} (q : Q (some i) H) : IntQ (.int i) Q H := ⟨i, rfl, q⟩
theorem cutV_map {ns : List Int} {lo hi : Option Int} : ∃ ms : List Int, cutV (ns.map V.int) lo hi = ms.map V.int ∧ ms.length ≤ ns.length := by
  refine ⟨(ns.drop (HT.sIx (ns.map V.int).length 0 lo)).take (HT.sIx (ns.map V.int).length (ns.map V.int).length hi - HT.sIx (ns.map V.int).length 0 lo), ?_, ?_⟩
  · unfold cutV
    rw [List.map_take, List.map_drop]
  · rw [List.length_take, List.length_drop]; omega
/-! ## loops, once more -/
def LoopQ (J : It) (g : TG) (tb : TS) (D : Ends) (σ : L2.St) (H1 : Hp) : Prop := ∃ W : Nat → Nat → L2.St → Hp → Prop, (∃ m, W 0 m σ H1) ∧ ∀ i m σ H, W i m σ H →
  (J.stop i H ∧ D.nx σ H) ∨ (J.go i H ∧ ∃ N : L2.St → Hp → Prop, (∀ σ' H', N σ' H' → ∃ m', m' < m ∧ W (i + 1) m' σ' H') ∧ ∀ x H', J.yld i H x H' → g x σ H' fun σ2 H2 => tb { D with nx := N, ct := N, bk := D.nx } σ2 H2)
section
variable {K : PySem.W.Frag} {g : TG} {tb : TS} {D : Ends} {σ : L2.St} {H : Hp}
theorem u_for {wi : TI} (h : wi σ H fun J H1 => LoopQ J g tb D σ H1) : tFor wi g tb D σ H := h
def ItLq (K : PySem.W.Frag) (x : V) (R : It → Hp → Prop) (H : Hp) : Prop := ∃ a, x = .ref a ∧ (∃ xs, SqL K H a xs) ∧ R (Itl K a) H
def ItTq (K : PySem.W.Frag) (x : V) (R : It → Hp → Prop) (H : Hp) : Prop := ∃ a, x = .ref a ∧ (∃ xs, SqT K H a xs) ∧ R (Itt K a) H
theorem u_iL {tl : TE} {R : It → Hp → Prop} (h : tl σ H fun x H1 => ItLq K x R H1) : iList K tl σ H R := h
theorem u_iT {tl : TE} {R : It → Hp → Prop} (h : tl σ H fun x H1 => ItTq K x R H1) : iTup K tl σ H R := h
theorem u_iLq {a : Addr} {xs : List V} {R : It → Hp → Prop} (h : SqL K H a xs) (q : R (Itl K a) H) : ItLq K (.ref a) R H := ⟨a, rfl, ⟨xs, h⟩, q⟩
theorem u_iTq {a : Addr} {xs : List V} {R : It → Hp → Prop} (h : SqT K H a xs) (q : R (Itt K a) H) : ItTq K (.ref a) R H := ⟨a, rfl, ⟨xs, h⟩, q⟩
def ItR1 (vs : List V) (R : It → Hp → Prop) (H : Hp) : Prop := ∃ j : Int, vs = [.int j] ∧ -(2 ^ 62) ≤ j ∧ j < 2 ^ 62 ∧ R (Itr 0 j.toNat) H
def ItR2 (vs : List V) (R : It → Hp → Prop) (H : Hp) : Prop := ∃ i j : Int, vs = [.int i, .int j] ∧ (-(2 ^ 62) ≤ i ∧ i < 2 ^ 62 ∧ -(2 ^ 62) ≤ j ∧ j < 2 ^ 62) ∧ R (Itr i (j - i).toNat) H
theorem u_r1 {ta : TA} {R : It → Hp → Prop} (h : ta σ H fun vs H1 => ItR1 vs R H1) : iRng1 ta σ H R := h
theorem u_r2 {ta : TA} {R : It → Hp → Prop} (h : ta σ H fun vs H1 => ItR2 vs R H1) : iRng2 ta σ H R := h
theorem u_r1q {j : Int} {R : It → Hp → Prop} (h : -(2 ^ 62) ≤ j ∧ j < 2 ^ 62) (q : R (Itr 0 j.toNat) H) : ItR1 [.int j] R H := ⟨j, rfl, h.1, h.2, q⟩
theorem u_r2q {i j : Int} {R : It → Hp → Prop} (h : -(2 ^ 62) ≤ i ∧ i < 2 ^ 62 ∧ -(2 ^ 62) ≤ j ∧ j < 2 ^ 62) (q : R (Itr i (j - i).toNat) H) : ItR2 [.int i, .int j] R H := ⟨i, j, rfl, h, q⟩
theorem l_list {a : Addr} (xs : List V) (Pv : Nat → L2.St → Hp → Prop) (h0 : Pv 0 σ H) (hl : ∀ i σ H, i ≤ xs.length → Pv i σ H → SqL K H a xs)
    (hs : ∀ i x σ H, xs[i]? = some x → Pv i σ H → g x σ H fun σ2 H2 => tb { D with nx := Pv (i + 1), ct := Pv (i + 1), bk := D.nx } σ2 H2) (hd : ∀ σ H, Pv xs.length σ H → D.nx σ H) : LoopQ (Itl K a) g tb D σ H := for_list Pv h0 hl hs hd
theorem l_tup {a : Addr} (xs : List V) (Pv : Nat → L2.St → Hp → Prop) (h0 : Pv 0 σ H) (hl : ∀ i σ H, i ≤ xs.length → Pv i σ H → SqT K H a xs)
    (hs : ∀ i x σ H, xs[i]? = some x → Pv i σ H → g x σ H fun σ2 H2 => tb { D with nx := Pv (i + 1), ct := Pv (i + 1), bk := D.nx } σ2 H2) (hd : ∀ σ H, Pv xs.length σ H → D.nx σ H) : LoopQ (Itt K a) g tb D σ H := for_tup Pv h0 hl hs hd
theorem l_range {lo : Int} {n : Nat} (Pv : Nat → L2.St → Hp → Prop) (h0 : Pv 0 σ H)
    (hs : ∀ i σ H, i < n → Pv i σ H → g (.int (lo + i)) σ H fun σ2 H2 => tb { D with nx := Pv (i + 1), ct := Pv (i + 1), bk := D.nx } σ2 H2) (hd : ∀ σ H, Pv n σ H → D.nx σ H) : LoopQ (Itr lo n) g tb D σ H := for_range Pv h0 hs hd
end
/-! ## what the operators ask of numbers -/
theorem two64 : (2 : Int) ^ 64 = 18446744073709551616 := by decide +kernel
theorem cmul_of {i j : Int} (h : (-18446744073709551616 < i ∧ i < 18446744073709551616) ∨ (-18446744073709551616 < j ∧ j < 18446744073709551616)) : CMul i j := by
  unfold CMul
  rw [two64]
  exact h
theorem cpow_of {i j : Int} (h : 0 ≤ j ∧ j ≤ 1000000 ∧ -18446744073709551616 < i ∧ i < 18446744073709551616) : CPow i j := by
  refine ⟨h.1, h.2.1, ?_⟩
  have e : (2 : Nat) ^ 64 = 18446744073709551616 := by decide +kernel
  rw [e]
  omega
theorem cdivw_of {i j : Int} (h : 0 < j ∧ j < 18446744073709551616) : CDivW i j := by
  refine wide_div (b := 64) h.1 ?_ (by decide) (by decide)
  have e : (2 : Nat) ^ 64 = 18446744073709551616 := by decide +kernel
  rw [e]
  omega
/-! ## the built-in names -/
theorem b_len : bootBuiltins "len" = some (.builtin "len") := by decide +kernel
theorem b_abs : bootBuiltins "abs" = some (.builtin "abs") := by decide +kernel
theorem b_max : bootBuiltins "max" = some (.builtin "max") := by decide +kernel
theorem b_min : bootBuiltins "min" = some (.builtin "min") := by decide +kernel
theorem b_isinstance : bootBuiltins "isinstance" = some (.builtin "isinstance") := by decide +kernel
theorem b_sum : bootBuiltins "sum" = some (.builtin "sum") := by decide +kernel
theorem b_sorted : bootBuiltins "sorted" = some (.builtin "sorted") := by decide +kernel
theorem b_any : bootBuiltins "any" = some (.builtin "any") := by decide +kernel
theorem b_all : bootBuiltins "all" = some (.builtin "all") := by decide +kernel
theorem b_divmod : bootBuiltins "divmod" = some (.builtin "divmod") := by decide +kernel
theorem b_ord : bootBuiltins "ord" = some (.builtin "ord") := by decide +kernel
theorem b_chr : bootBuiltins "chr" = some (.builtin "chr") := by decide +kernel
theorem b_pow : bootBuiltins "pow" = some (.builtin "pow") := by decide +kernel
theorem b_hash : bootBuiltins "hash" = some (.builtin "hash") := by decide +kernel
theorem b_repr : bootBuiltins "repr" = some (.builtin "repr") := by decide +kernel
theorem b_next : bootBuiltins "next" = some (.builtin "next") := by decide +kernel
theorem b_iter : bootBuiltins "iter" = some (.builtin "iter") := by decide +kernel
theorem b_int : bootBuiltins "int" = some (.type "int") := by decide +kernel
theorem b_str : bootBuiltins "str" = some (.type "str") := by decide +kernel
theorem b_bool : bootBuiltins "bool" = some (.type "bool") := by decide +kernel
theorem b_list : bootBuiltins "list" = some (.type "list") := by decide +kernel
theorem b_tuple : bootBuiltins "tuple" = some (.type "tuple") := by decide +kernel
theorem b_dict : bootBuiltins "dict" = some (.type "dict") := by decide +kernel
theorem b_set : bootBuiltins "set" = some (.type "set") := by decide +kernel
theorem b_range : bootBuiltins "range" = some (.type "range") := by decide +kernel
theorem b_enumerate : bootBuiltins "enumerate" = some (.type "enumerate") := by decide +kernel
theorem b_reversed : bootBuiltins "reversed" = some (.type "reversed") := by decide +kernel
theorem b_zip : bootBuiltins "zip" = some (.type "zip") := by decide +kernel
theorem b_type : bootBuiltins "type" = some (.type "type") := by decide +kernel
theorem b_ValueError : bootBuiltins "ValueError" = some (.type "ValueError") := by decide +kernel
theorem b_map : bootBuiltins "map" = some (.type "map") := by decide +kernel
theorem b_filter : bootBuiltins "filter" = some (.type "filter") := by decide +kernel
theorem b_frozenset : bootBuiltins "frozenset" = some (.type "frozenset") := by decide +kernel
theorem cdivw_big {i j : Int} (h : 0 < j ∧ j ≤ 10000000000000000000000000000000000000000000000000000000000000000000000) : CDivW i j := by
  refine wide_div (b := 256) h.1 ?_ (by decide) (by decide)
  have e : (2 : Nat) ^ 256 = 115792089237316195423570985008687907853269984665640564039457584007913129639936 := by decide +kernel
  rw [e]
  omega
/-- a power of two written numbers -/
theorem u_pow {i j v : Int} {H : Hp} {Q : VK} (c : CPow i j) (e : i ^ j.toNat = v) (q : Q (.int v) H) : rI CPow (fun i j => V.int (i ^ j.toNat)) (.int i) (.int j) H Q := ⟨i, j, rfl, rfl, c, by show Q (.int (i ^ j.toNat)) H; rw [e]; exact q⟩
/-! ## new instances, at the slots -/
def NewI (C : Addr) (sp : Sp) (vs : List V) (H : Hp) (Q : VK) (E : XK) : Prop :=
  ∀ x dx, H x = none → H dx = none → dx ≠ x → sp (.ref x :: vs) (upd (upd H dx (.own x)) x (.ins C dx [])) (fun v H2 => v = .non ∧ Q (.ref x) H2) E
def tNew (C : Addr) (sp : Sp) (dvs : List V) (E : L2.St → XK) (t : TA) : TE := fun σ H Q => t σ H fun vs H1 => NewI C sp (vs ++ dvs) H1 Q (E σ)
def tNewK (C : Addr) (n m : Nat) (sp : Sp) (g : List V → List V → List V) (E : L2.St → XK) (t tk : TA) : TE := fun σ H Q => t σ H fun vs H1 => tk σ H1 fun zs H2 => vs.length = n ∧ zs.length = m ∧ NewI C sp (g vs zs) H2 Q (E σ)
theorem passAll {X : Cx} {CX : CXT} {E : XK} (h : Passes CX X E) (σ : L2.St) : PassesAt CX X σ E := fun pins H s e s' I c => h pins σ H s e s' I c
section
variable {X : Cx} {CX : CXT} {k : Nat} {f C : Addr} {fd : FuncData} {ps : List Str} {sp : Sp}
theorem run_new {pins : List (Addr × Obj)} {σ : L2.St} {H : Hp} {s : Shared} {Q : VK} {E : XK} {us : List Value} {kw : List (Str × Value)} {vs : List V} (mk : Mk X.K C f) (ok : FnOk X.prog X.w X.K X.mg X.base CX k f fd ps sp) (room : Room (k + 1) X.A)
    (pass : PassesAt CX X σ E) (inv : Inv X pins σ H s)
    (bind : ∀ (x : Addr) (z : Shared), X.K.In z.heap → (V.ref x :: vs).length = ps.length → ∃ ws, BindsTo z fd ⟨Value.ref x :: us, kw⟩ (ps.zip ws) ∧ Vals (V.ref x :: vs) ws)
    (go : NewI C sp vs H Q E) : wpAny (model X.prog X.w) X.A (call (.ref C) us kw) (EP X pins σ Q) X.xe s := by
  obtain ⟨n, hn⟩ : ∃ n, n = s.heap.objs.size := ⟨_, rfl⟩
  have made := Inv.made (C := C) inv
  rw [← hn] at made
  have asked := go (n + 1) n (inv.hok.fresh (hn ▸ Nat.le_succ _)) (inv.hok.fresh (hn ▸ Nat.le_refl _)) (Nat.ne_of_lt (Nat.lt_succ_self n))
  obtain ⟨ws, bound, same⟩ := bind (n + 1) _ made.kIn (ok.len _ _ _ _ asked)
  refine wpAny_call ?_
  refine make_map (f := f) inv.kIn mk.makes mk.init (beq_iff_eq.mp mk.fn) ?_
  rw [← hn]
  refine codeAny_mono (ok.run (X.A.under (.builtin "type.__call__" ⟨.ref C :: us, kw⟩)) X.stack _ _ _ ws _ _ E (room.make C us kw) (made.env0.make C us kw) bound same asked) fun r s2 out => ?_
  match r, out with
  | .error e, out => exact pass pins _ _ e s2 made out
  | .ok (.ret u), out =>
    obtain ⟨v, H3, J, rel, isn, rest⟩ := made.after out
    subst isn
    exact ⟨rel, .ref (n + 1), H3, J, rfl, rest⟩
  | .ok .next, out => exact out.elim
  | .ok .brk, out => exact out.elim
  | .ok .cont, out => exact out.elim
variable {x : Str} {p pos : Pos} {e : Expr} {es : List Expr} {t tk : TA} {dvs : List V} {ds : List Value} {E : L2.St → XK} {kws : List Keyword} {ks : List Str} {n : Nat} {g : List Value → List Value → List Value} {gV : List V → List V → List V}
theorem pe_new (mk : Mk X.K C f) (ok : FnOk X.prog X.w X.K X.mg X.base CX k f fd ps sp) (pass : ∀ σ, PassesAt CX X σ (E σ)) (room : Room (k + 1) X.A) (named : X.mg x = some (.ref C)) (bind : Binds X.K fd ps ds) (dflt : Vals dvs ds)
    (ha : PA X (e :: es) t) (hg : Gl X x := by rfl) (hdb : (x == ("__debug__" : Str)) = false := by decide)
    (he : starEach (e :: es) X.env = (false, eval e X.env) :: starEach es X.env := by rfl) (hpl : (backTo pos (starEach es X.env)).any (·.1) = false := by rfl) :
    PE X (.Call (.Name x p) (e :: es) [] pos) (tNew C sp dvs E t) := by
  constructor
  intro pins s σ H Q inv asked
  apply wpAny_Call_Name_kw
  refine ld_glob inv hg named ?_ hdb
  refine PySem.W.callWith_K (h₀ := X.base) inv.ok.mod.kin mk.kp ?_ he hpl
  refine thn (ha.run pos pins s σ H _ inv asked) fun us s2 out => ?_
  obtain ⟨vs, H2, inv2, rel, go⟩ := out
  refine ⟨inv2.kIn, run_new mk ok room (pass σ) inv2 (fun a z hz hl => ?_) go⟩
  have all : Vals (V.ref a :: (vs ++ dvs)) (Value.ref a :: (us ++ ds)) := .cons rfl (rel.append dflt)
  exact ⟨_, bind z (Value.ref a :: us) hz (all.length.symm.trans hl), all⟩
theorem pe_newK (mk : Mk X.K C f) (ok : FnOk X.prog X.w X.K X.mg X.base CX k f fd ps sp) (pass : ∀ σ, PassesAt CX X σ (E σ)) (room : Room (k + 1) X.A) (named : X.mg x = some (.ref C)) (bind : KBn X.K fd ps (n + 1) ks g gV)
    (ha : PA X (e :: es) t) (hkw : PK X kws tk) (hg : Gl X x := by rfl) (hall : (backToKw pos (keywordEach kws X.env)).all (·.1.isSome) = true := by rfl) (hks : (backToKw pos (keywordEach kws X.env)).filterMap (·.1) = ks := by rfl)
    (hdb : (x == ("__debug__" : Str)) = false := by decide) (he : starEach (e :: es) X.env = (false, eval e X.env) :: starEach es X.env := by rfl)
    (hpl : ((backTo pos (starEach (e :: es) X.env)).any (·.1) || (backToKw pos (keywordEach kws X.env)).any (·.1.isNone)) = false := by rfl) (hgv : ∀ a vs zs, gV (V.ref a :: vs) zs = V.ref a :: gV vs zs) :
    PE X (.Call (.Name x p) (e :: es) kws pos) (tNewK C n ks.length sp gV E t tk) := by
  constructor
  intro pins s σ H Q inv asked
  apply wpAny_Call_Name_kw
  refine ld_glob inv hg named ?_ hdb
  refine PySem.W.callWith_KW (h₀ := X.base) inv.ok.mod.kin mk.kp hall ?_ hpl he
  refine thn (ha.run pos pins s σ H _ inv asked) fun us s2 out => ?_
  obtain ⟨vs, H2, inv2, rel, asked2⟩ := out
  refine thn (hkw.run pos pins s2 σ H2 _ inv2 asked2) fun ws s3 out3 => ?_
  obtain ⟨zs, H3, inv3, rel3, l1, l2, go⟩ := out3
  refine ⟨inv3.kIn, ?_⟩
  rw [hks]
  refine run_new mk ok room (pass σ) inv3 (fun a z hz hl => ?_) go
  have all : Vals (V.ref a :: vs) (Value.ref a :: us) := .cons rfl rel
  refine ⟨_, bind.to z (Value.ref a :: us) ws hz (all.length.symm.trans (congrArg Nat.succ l1)) (rel3.length.symm.trans l2), ?_⟩
  rw [← hgv]
  exact bind.rel all rel3
end
theorem u_newI {C : Addr} {sp : Sp} {dvs : List V} {E : L2.St → XK} {t : TA} {σ : L2.St} {H : Hp} {Q : VK} (h : t σ H fun vs H1 => NewI C sp (vs ++ dvs) H1 Q (E σ)) : tNew C sp dvs E t σ H Q := h
def NewK (C : Addr) (n m : Nat) (sp : Sp) (g : List V → List V → List V) (vs zs : List V) (H : Hp) (Q : VK) (E : XK) : Prop := vs.length = n ∧ zs.length = m ∧ NewI C sp (g vs zs) H Q E
theorem u_newK {C : Addr} {n m : Nat} {sp : Sp} {g : List V → List V → List V} {E : L2.St → XK} {t tk : TA} {σ : L2.St} {H : Hp} {Q : VK} (h : t σ H fun vs H1 => tk σ H1 fun zs H2 => NewK C n m sp g vs zs H2 Q (E σ)) : tNewK C n m sp g E t tk σ H Q := h
theorem newK {C : Addr} {n m : Nat} {sp : Sp} {g : List V → List V → List V} {vs zs : List V} {H : Hp} {Q : VK} {E : XK} (h1 : vs.length = n) (h2 : zs.length = m) (h : NewI C sp (g vs zs) H Q E) : NewK C n m sp g vs zs H Q E := ⟨h1, h2, h⟩
/-- a new instance: what was there stands -/
theorem Kp.inst {H H1 : Hp} {x dx C : Addr} {M : List Addr} (nx : H x = none) (nd : H dx = none) (k : Kp [x] (upd (upd H dx (.own x)) x (.ins C dx [])) H1) : Kp M H H1 := fun b o _ e =>
  k b o (by simpa using ne_of_none e nx) (by rw [upd_ne (ne_of_none e nx), upd_ne (ne_of_none e nd)]; exact e)
/-! ## stores into fields -/
def SFq (K : PySem.W.Frag) (f : Str) (x y : V) (H : Hp) (Q : Hp → Prop) : Prop := ∃ a C dx fs, x = .ref a ∧ H a = some (.ins C dx fs) ∧ Cls K C ∧ NoAttr K C f ∧ fs.length < 1000 ∧ Q (upd H a (.ins C dx (putF f y fs)))
theorem u_sfld {K : PySem.W.Frag} {ta tv : TE} {f : Str} {D : Ends} {σ : L2.St} {H : Hp} (h : tv σ H fun y H1 => ta σ H1 fun x H2 => SFq K f x y H2 (D.nx σ)) : sFld K ta tv f D σ H := h
theorem sf_of {K : PySem.W.Frag} {f : Str} {a C dx : Addr} {fs : List (Str × V)} {y : V} {H : Hp} {Q : Hp → Prop} (hc : Cls K C) (hn : NoAttr K C f) (h : H a = some (.ins C dx fs)) (hl : fs.length < 1000)
    (q : ∀ H', Kp [a] H H' → H' a = some (.ins C dx (putF f y fs)) → Q H') : SFq K f (.ref a) y H Q := ⟨a, C, dx, fs, rfl, h, hc, hn, hl, q _ Kp.mut upd_same⟩
/-! ## operators of own classes -/
section
variable {X : Cx} {CX : CXT} {k : Nat} {f C : Addr} {fd : FuncData} {ps : List Str} {sp : Sp} {E : XK}
theorem back_of {pins : List (Addr × Obj)} {σ : L2.St} {Q : VK} {r : Value} {s : Shared} (h : EP X pins σ Q r s) : PySem.W.CmpBack (EP X pins σ Q) r s := by
  obtain ⟨v, H, inv, rel, q⟩ := h
  cases v with
  | non => cases (show r = .none from rel); exact ⟨.non, H, inv, rel, q⟩
  | bl b => cases (show r = .bool b from rel); exact ⟨.bl b, H, inv, rel, q⟩
  | int i => obtain ⟨t, e⟩ := (show ∃ t, r = .int i t from rel); subst e; exact ⟨.int i, H, inv, rel, q⟩
  | str i => obtain ⟨t, e⟩ := (show ∃ t, r = .str i t from rel); subst e; exact ⟨.str i, H, inv, rel, q⟩
  | byt i => obtain ⟨t, e⟩ := (show ∃ t, r = .bytes i t from rel); subst e; exact ⟨.byt i, H, inv, rel, q⟩
  | flt i => obtain ⟨t, e⟩ := (show ∃ t, r = .float i t from rel); subst e; exact ⟨.flt i, H, inv, rel, q⟩
  | ref a => cases (show r = .ref a from rel); exact ⟨.ref a, H, inv, rel, q⟩
  | ty n => cases (show r = .type n from rel); exact ⟨.ty n, H, inv, rel, q⟩
/-- a op b, two instances of the class at C -/
def rOwn (C : Addr) (sp : Sp) (E : XK) : R2 := fun x y H Q => ∃ a b dx dy fs gs, x = .ref a ∧ y = .ref b ∧ H a = some (.ins C dx fs) ∧ H b = some (.ins C dy gs) ∧ sp [x, y] H Q E
theorem op_own {op : Operator} (ok : FnOk X.prog X.w X.K X.mg X.base CX k f fd ps sp) (first : PySem.W.selfFirst X.K C = true) (found : PySem.W.findIn X.K (.ref C) (PySem.dunder op.info.2) = some (some (.ref f))) (isf : PySem.W.isFn X.K (.ref f) = true)
    (bind : Binds X.K fd ps []) (pass : Passes CX X E) (room : Room k X.A) : OpR X (binaryOp op) (rOwn C sp E) := by
  intro pins s σ H x y v u Q inv rx ry asked
  obtain ⟨a, b, dx, dy, fs, gs, rfl, rfl, ha, hb, go⟩ := asked
  cases rx
  cases ry
  obtain ⟨_, J, _⟩ := ins_get inv.hok ha
  obtain ⟨_, J2, _⟩ := ins_get inv.hok hb
  obtain ⟨_, J, _⟩ := J.look
  obtain ⟨_, J2, _⟩ := J2.look
  obtain ⟨_, fr⟩ := inv.fr
  refine PySem.W.binop_K fr inv.ok.mod.kin J J2.type first found isf ?_
  exact wpAny_mono (run_fn (vs := [.ref a, .ref b]) (us := [.ref a, .ref b]) ok room bind .nil pass inv (.cons rfl (.cons rfl .nil)) go) (fun r s2 q => back_of q) fun _ _ z => z
/-- a == y, a an instance of the class at C, y of the type t -/
def rEqOwn (K : PySem.W.Frag) (C : Addr) (sp : Sp) (E : XK) : R2 := fun x y H Q => ∃ a dx fs t, x = .ref a ∧ H a = some (.ins C dx fs) ∧ TyX K H y t ∧ PySem.W.notFirst K C t = true ∧ sp [x, y] H Q E
theorem op_eqOwn (ok : FnOk X.prog X.w X.K X.mg X.base CX k f fd ps sp) (found : PySem.W.findIn X.K (.ref C) "__eq__" = some (some (.ref f))) (isf : PySem.W.isFn X.K (.ref f) = true)
    (bind : Binds X.K fd ps []) (pass : Passes CX X E) (room : Room k X.A) : OpR X (compareOp .Eq) (rEqOwn X.K C sp E) := by
  intro pins s σ H x y v u Q inv rx ry asked
  obtain ⟨a, dx, fs, t, rfl, ha, ty, nf, go⟩ := asked
  cases rx
  obtain ⟨_, J, _⟩ := ins_get inv.hok ha
  obtain ⟨_, J, _⟩ := J.look
  obtain ⟨_, fr⟩ := inv.fr
  obtain ⟨Z, kit, hz, _⟩ := kit_of inv ry ty
  show wpAny (model X.prog X.w) X.A (richCompare .Eq (.ref a) u) (EP X pins σ Q) X.xe s
  refine PySem.W.cmp_K (op := .Eq) (tb := t) room.units0 fr inv.ok.mod.kin J (kit.ty _ _ inv.kIn hz) nf found isf ?_
  exact wpAny_mono (run_fn (vs := [.ref a, y]) (us := [.ref a, u]) ok room bind .nil pass inv (.cons rfl (.cons ry .nil)) go) (fun r s2 q => back_of q) fun _ _ z => z
end
/-! ## what a caught error is -/
def rIsE2 (K : PySem.W.Frag) (cls : Value) (d : Option Addr) (a : Addr) : List V → Hp → VK → Prop := fun xs H Q => ∃ (D : Addr) (c : V) (cv : Value) (b : Bool), cls = .ref D ∧ d = none ∧ ExcC K D ∧ xs = [.ref a, c] ∧ ClsV c cv ∧ PySem.W.kitOne K (.ref D) cv = some b ∧ Q (.bl b) H
def rIsET (K : PySem.W.Frag) (cls : Value) (d : Option Addr) (a : Addr) : List V → Hp → VK → Prop := fun xs H Q => ∃ (D tp : Addr) (cs : List V) (us : List Value) (b : Bool), cls = .ref D ∧ d = none ∧ ExcC K D ∧ xs = [.ref a, .ref tp] ∧ H tp = some (.tup cs) ∧ Paired ClsV cs us ∧ PySem.W.kitAny K (.ref D) us = some b ∧ Q (.bl b) H
section
variable {X : Cx} {a : Addr} {oe : Obj} {cls : Value} {d : Option Addr} {pn : List (Addr × Obj)}
theorem c_isE (hz : Zc cls d oe) (hf : ∃ vs, oe.data = .fields vs) : CallR (X.suite a ((a, oe) :: pn)) (.builtin "isinstance") (rIsE2 X.K cls d a) := by
  intro pins s σ H xs us Q inv rel asked
  obtain ⟨D, c, cv, b, rfl, rfl, C, rfl, kc, e, q⟩ := asked
  exact call_isE C hz hf pins s σ H _ us Q inv rel ⟨c, cv, b, rfl, fun u r => kc.eq r, e, q⟩
theorem c_isET (hz : Zc cls d oe) (hf : ∃ vs, oe.data = .fields vs) : CallR (X.suite a ((a, oe) :: pn)) (.builtin "isinstance") (rIsET X.K cls d a) := by
  intro pins s σ H xs us Q inv rel asked
  obtain ⟨D, tp, cs, ws, b, rfl, rfl, C, rfl, hT, kc, e, q⟩ := asked
  obtain ⟨u1, u2, rfl, r1, r2⟩ := vals2 rel
  cases (show u1 = Value.ref a from r1)
  cases (show u2 = Value.ref tp from r2)
  obtain ⟨got, _⟩ := inv.pin (a, oe) (List.mem_append.mpr (.inl List.mem_cons_self))
  obtain ⟨_, its, rv, o, h1, h2, n, h3⟩ := (show ObjOk X.prog X.w H s.heap tp (.tup cs) from inv.hok tp _ hT)
  have same := ClsV.all kc rv
  subst same
  obtain ⟨oc, od, dt, sl⟩ := o
  dsimp only at h2 h3
  subst h2 h3
  obtain ⟨vs, hv⟩ := hf
  have J : PySem.W.InstAt s.heap a oe D none := by
    cases oe
    cases hz.1
    cases hz.2
    dsimp only at hv
    subst hv
    exact ⟨got, rfl, rfl, trivial⟩
  exact PySem.W.kia_tup (PySem.W.handS_kitx_exc C.hg C.hk C.hs C.hd C.ha C.hn C.ht C.hm) inv.kIn J h1 e (fun z => nomatch z) fun tk => ⟨.bl b, H, inv.kept (t' := tk) fun _ _ z => z, rfl, q⟩
end
/-! ## methods, classes -/
def Dm (K : PySem.W.Frag) (C : Addr) (m qual : Str) (st : Stmt) : Prop := ∃ f fd, PySem.W.findIn K (.ref C) m = some (some (.ref f)) ∧ PySem.W.isFn K (.ref f) = true ∧ Fun K m qual st f fd
theorem dm_of {K : PySem.W.Frag} {C f : Addr} {m qual : Str} {st : Stmt} {od an : Option Addr} {sl : Array (Option Value)} {oc kV dc pm cd ct : Value}
    (a : PySem.W.findIn K (.ref C) m = some (some (.ref f))) (i : PySem.W.isFn K (.ref f) = true) (l : K.lookup f = some ⟨oc, od, .func (PySem.W.fnOf m qual (defArgs st) (defBody st) (defScope st) .none kV dc pm an cd ct), sl⟩)
    (c : PySem.W.codeIn K cd qual = true) (k : PySem.W.keepIn K (.ref f) = true) : Dm K C m qual st := ⟨f, _, a, i, fun_mk l c k⟩
def Mc (P : Program) (w : World) (K : PySem.W.Frag) (mg : Str → Option Value) (base : Heap) (CX : CXT) (k : Nat) (C : Addr) (m : Str) (ps : List Str) (sp : Sp) : Prop :=
  ∃ f fd, FnOk P w K mg base CX k f fd ps sp ∧ PySem.W.findIn K (.ref C) m = some (some (.ref f)) ∧ PySem.W.isFn K (.ref f) = true ∧ PySem.W.keepIn K (.ref f) = true ∧ Binds K fd ps []
section
variable {P : Program} {w : World} {K : PySem.W.Frag} {mg : Str → Option Value} {base : Heap} {m qual : Str} {st : Stmt} {ps N : List Str} {k : Nat} {sp : Sp} {C : Addr}
theorem mc_of (F : Dm K C m qual st) (S : FnScope N ps (defScope st)) (len : ∀ vs H Q E, sp vs H Q E → vs.length = ps.length)
    (hb : ∀ (kV doc pm : Value) (an : Option Addr) (cdv ct : Value) (us : List Value), us.length = ps.length → bindArgs (PySem.W.fnOf m qual (defArgs st) (defBody st) (defScope st) .none kV doc pm an cdv ct) ⟨us, []⟩ = pure (ps.zip us))
    (hbody : ∀ (f : Addr) (cdv : Value) (A : Around) (outer : List Env) (s : Shared) (H : Hp) (vs : List V) (Q : VK) (E : XK), Room k (A.deeper (envOfC qual (defScope st) s.heap.objs.size f cdv)) → sp vs H Q E →
      ∃ t, PSs (cxOf CX0 P w K mg base N qual (defScope st) f cdv A outer s H E).nox (defBody st) t ∧ t { nx := fun _ H' => Q .non H', rt := Q } (start N vs) H) : Mc P w K mg base CX0 (k + 1) C m ps sp := by
  obtain ⟨f, fd, hm, hi, F⟩ := F
  exact ⟨f, fd, F.ok S len (hbody f), hm, hi, F.kp, F.binds hb⟩
theorem mc_ofX (F : Dm K C m qual st) (S : FnScope N ps (defScope st)) (len : ∀ vs H Q E, sp vs H Q E → vs.length = ps.length)
    (hb : ∀ (kV doc pm : Value) (an : Option Addr) (cdv ct : Value) (us : List Value), us.length = ps.length → bindArgs (PySem.W.fnOf m qual (defArgs st) (defBody st) (defScope st) .none kV doc pm an cdv ct) ⟨us, []⟩ = pure (ps.zip us))
    (hbody : ∀ (f : Addr) (cdv : Value) (A : Around) (outer : List Env) (s : Shared) (H : Hp) (vs : List V) (Q : VK) (E : XK), Room k (A.deeper (envOfC qual (defScope st) s.heap.objs.size f cdv)) → sp vs H Q E →
      ∃ t, PSs (cxOf (L2.CX P w) P w K mg base N qual (defScope st) f cdv A outer s H E) (defBody st) t ∧ t { nx := fun _ H' => Q .non H', rt := Q } (start N vs) H) : Mc P w K mg base (L2.CX P w) (k + 1) C m ps sp := by
  obtain ⟨f, fd, hm, hi, F⟩ := F
  exact ⟨f, fd, F.okX S len (hbody f), hm, hi, F.kp, F.binds hb⟩
end
section
variable {X : Cx} {CX : CXT} {k : Nat} {C : Addr} {m : Str} {ps : List Str} {sp : Sp} {E : XK}
theorem op_mc {op : Operator} (F : Mc X.prog X.w X.K X.mg X.base CX k C (PySem.dunder op.info.2) ps sp) (first : PySem.W.selfFirst X.K C = true) (pass : Passes CX X E) (room : Room k X.A) : OpR X (binaryOp op) (rOwn C sp E) := by
  obtain ⟨f, fd, ok, a, i, _, b⟩ := F
  exact op_own ok first a i b pass room
theorem op_mcEq (F : Mc X.prog X.w X.K X.mg X.base CX k C "__eq__" ps sp) (pass : Passes CX X E) (room : Room k X.A) : OpR X (compareOp .Eq) (rEqOwn X.K C sp E) := by
  obtain ⟨f, fd, ok, a, i, _, b⟩ := F
  exact op_eqOwn ok a i b pass room
end
/-- an own error class, as it stands -/
structure ErrC (K : PySem.W.Frag) (mg : Str → Option Value) (x : Str) (C : Addr) : Prop where
  g : mg x = some (.ref C)
  k : PySem.W.keepIn K (.ref C) = true
  b : PySem.W.subIn K (.ref C) (.type "BaseException") = some true
  t : PySem.W.typeIn K (.ref C) = some (.type "type")
  e : ExcC K C
theorem ErrC.exm {K : PySem.W.Frag} {mg : Str → Option Value} {x : Str} {C : Addr} {cls : Value} {b : Bool} (h : ErrC K mg x C) (s : PySem.W.subIn K cls (.ref C) = some b) : PySem.W.exmOne K cls (.ref C) = some b := PySem.W.exm_ref h.b h.e.hd h.t s
theorem kit_own {K : PySem.W.Frag} {C : Addr} {t : Value} {b : Bool} (hd : PySem.W.hasDictIn K C = true) (ty : PySem.W.typeIn K (.ref C) = some (.type "type")) (ne : (t == .ref C) = false) (s : PySem.W.subIn K t (.ref C) = some b) : PySem.W.kitOne K t (.ref C) = some b := by
  obtain ⟨cd, hc, _⟩ := PySem.W.any_some hd
  have e : ((PySem.W.clsIn K C).isSome && PySem.W.typeIn K (.ref C) == some (.type "type")) = true := by rw [hc, ty] <;> rfl
  unfold PySem.W.kitOne
  rw [if_neg (by rw [ne]; exact Bool.false_ne_true)]
  show (if ((PySem.W.clsIn K C).isSome && PySem.W.typeIn K (.ref C) == some (.type "type")) = true then PySem.W.subIn K t (.ref C) else none) = some b
  rw [if_pos e]
  exact s
theorem kit_self {K : PySem.W.Frag} {C : Addr} : PySem.W.kitOne K (.ref C) (.ref C) = some true := by
  unfold PySem.W.kitOne
  rw [if_pos (by simp)]
theorem notFirst_of {K : PySem.W.Frag} {C : Addr} {t : Value} (s : PySem.W.subIn K t (.ref C) = some false) : PySem.W.notFirst K C t = true := by
  unfold PySem.W.notFirst
  rw [s]
  simp
theorem notFirst_self {K : PySem.W.Frag} {C : Addr} : PySem.W.notFirst K C (.ref C) = true := by
  unfold PySem.W.notFirst
  simp
/-! ## sizes of numbers -/
def Bt (n : Nat) (x : Int) : Prop := x.natAbs < 2 ^ n
theorem Bt.mono {n m : Nat} {x : Int} (h : Bt n x) (l : n ≤ m) : Bt m x := Nat.lt_of_lt_of_le h (Nat.pow_le_pow_right (by decide) l)
theorem Bt.mul {n m : Nat} {x y : Int} (h : Bt n x) (h' : Bt m y) : Bt (n + m) (x * y) := by
  unfold Bt at *
  rw [Int.natAbs_mul, Nat.pow_add]
  exact Nat.mul_lt_mul'' h h'
theorem Bt.add {n : Nat} {x y : Int} (h : Bt n x) (h' : Bt n y) : Bt (n + 1) (x + y) := by
  unfold Bt at *
  rw [Nat.pow_succ]
  omega
theorem Bt.sub {n : Nat} {x y : Int} (h : Bt n x) (h' : Bt n y) : Bt (n + 1) (x - y) := by
  unfold Bt at *
  rw [Nat.pow_succ]
  omega
theorem Bt.neg {n : Nat} {x : Int} (h : Bt n x) : Bt n (-x) := by
  unfold Bt at *
  omega
theorem Bt.le {n : Nat} {x y : Int} (h : Bt n y) (l : x.natAbs ≤ y.natAbs) : Bt n x := Nat.lt_of_le_of_lt l h
theorem Bt.cmul {n m : Nat} {x y : Int} (h : Bt n x) (h' : Bt m y) (l : n + m ≤ 134217728 := by decide) : CMulX x y := mulx_ok h h' l
theorem Bt.cdiv {n : Nat} {x y : Int} (p : 0 < y) (h : Bt n y) (l : 0 < n ∧ n ≤ 9000 := by decide) : CDivW x y := wide_div p h l.1 l.2
theorem Bt.addM {n m : Nat} {x y : Int} (h : Bt n x) (h' : Bt m y) : Bt (n + m + 1) (x + y) := Bt.add (h.mono (Nat.le_add_right n m)) (h'.mono (Nat.le_add_left m n))
theorem Bt.subM {n m : Nat} {x y : Int} (h : Bt n x) (h' : Bt m y) : Bt (n + m + 1) (x - y) := Bt.sub (h.mono (Nat.le_add_right n m)) (h'.mono (Nat.le_add_left m n))
theorem two200 : (2 : Nat) ^ 200 = 1606938044258990275541962092341162602522202993782792835301376 := by decide +kernel
theorem bt200 {x : Int} (h : -1606938044258990275541962092341162602522202993782792835301376 < x ∧ x < 1606938044258990275541962092341162602522202993782792835301376) : Bt 200 x := by
  unfold Bt
  rw [two200]
  omega
theorem bt200' {x : Int} (h : Bt 200 x) : -1606938044258990275541962092341162602522202993782792835301376 < x ∧ x < 1606938044258990275541962092341162602522202993782792835301376 := by
  unfold Bt at h
  rw [two200] at h
  omega
theorem atI_mem {xs : List V} {i : Int} (h0 : 0 ≤ i) (h1 : i < (xs.length : Int)) : ∃ v, atI xs i = some v ∧ v ∈ xs := by
  obtain ⟨n, rfl⟩ : ∃ n : Nat, i = (n : Int) := ⟨i.toNat, by omega⟩
  have hn : n < xs.length := by omega
  exact ⟨xs[n], atI_nat (List.getElem?_eq_getElem hn), List.getElem_mem hn⟩
theorem mem_at {xs : List V} {i : Nat} {v : V} (h : xs[i]? = some v) : v ∈ xs := List.mem_of_getElem? h
section
variable {H : Hp} {Q : VK} {i j : Int}
theorem u_maxL (k : ∀ m, (m = i ∨ m = j) → i ≤ m → j ≤ m → Q (.int m) H) : rMax2 [.int i, .int j] H Q := ⟨i, j, rfl, by
  by_cases h : j > i
  · rw [if_pos h]; exact k j (.inr rfl) (by omega) (by omega)
  · rw [if_neg h]; exact k i (.inl rfl) (by omega) (by omega)⟩
theorem u_minL (k : ∀ m, (m = i ∨ m = j) → m ≤ i → m ≤ j → Q (.int m) H) : rMin2 [.int i, .int j] H Q := ⟨i, j, rfl, by
  by_cases h : j < i
  · rw [if_pos h]; exact k j (.inr rfl) (by omega) (by omega)
  · rw [if_neg h]; exact k i (.inl rfl) (by omega) (by omega)⟩
theorem u_absL (k : ∀ m, 0 ≤ m → (m = i ∨ m = -i) → Q (.int m) H) : rAbs [.int i] H Q := ⟨i, rfl, by
  by_cases h : i < 0
  · rw [if_pos h]; exact k _ (by omega) (.inr rfl)
  · rw [if_neg h]; exact k _ (by omega) (.inl rfl)⟩
end
theorem bt256 {x : Int} (h : -10000000000000000000000000000000000000000000000000000000000000000000000 ≤ x ∧ x ≤ 10000000000000000000000000000000000000000000000000000000000000000000000) : Bt 256 x := by
  unfold Bt
  have e : (2 : Nat) ^ 256 = 115792089237316195423570985008687907853269984665640564039457584007913129639936 := by decide +kernel
  rw [e]
  omega
theorem cmulx_of {i j : Int} (h : (-10000000000000000000000000000000000000000000000000000000000000000000000 ≤ i ∧ i ≤ 10000000000000000000000000000000000000000000000000000000000000000000000) ∧ (-10000000000000000000000000000000000000000000000000000000000000000000000 ≤ j ∧ j ≤ 10000000000000000000000000000000000000000000000000000000000000000000000)) : CMulX i j := (bt256 h.1).cmul (bt256 h.2)
theorem two100 : (2 : Nat) ^ 100 = 1267650600228229401496703205376 := by decide +kernel
theorem bt100 {x : Int} (h : -1267650600228229401496703205376 < x ∧ x < 1267650600228229401496703205376) : Bt 100 x := by
  unfold Bt
  rw [two100]
  omega
theorem two170 : (2 : Nat) ^ 170 = 1496577676626844588240573268701473812127674924007424 := by decide +kernel
theorem bt170 {x : Int} (h : -1496577676626844588240573268701473812127674924007424 < x ∧ x < 1496577676626844588240573268701473812127674924007424) : Bt 170 x := by
  unfold Bt
  rw [two170]
  omega
theorem bt30 {x : Int} (h : -1073741824 < x ∧ x < 1073741824) : Bt 30 x := by
  unfold Bt
  have e : (2 : Nat) ^ 30 = 1073741824 := by decide +kernel
  rw [e]
  omega
/-! ## caught errors, asked for their classes -/
section
variable {K : PySem.W.Frag} {mg : Str → Option Value} {D a : Addr} {H : Hp} {Q : VK}
theorem kit_none {Cs : List Addr} (h : ∀ C ∈ Cs, PySem.W.kitOne K (.ref D) (.ref C) = some false) : PySem.W.kitAny K (.ref D) (Cs.map Value.ref) = some false := by
  induction Cs with
  | nil => rfl
  | cons C r ih => exact kitAny_cons (h C List.mem_cons_self) (fun _ => ih fun x hx => h x (List.mem_cons_of_mem _ hx)) (fun z => by cases z)
theorem cls_all : ∀ Cs : List Addr, Paired ClsV (Cs.map V.ref) (Cs.map Value.ref)
  | [] => .nil
  | C :: r => .cons (.own C) (cls_all r)
theorem kit_bty {T : String} {b : Bool} (m : PySem.W.kitMeta T = true) (s : PySem.W.subIn K (.ref D) (.type T) = some b) : PySem.W.kitOne K (.ref D) (.type T) = some b := by
  unfold PySem.W.kitOne
  rw [if_neg (by simp)]
  show (if PySem.W.kitMeta T = true then PySem.W.subIn K (.ref D) (.type T) else none) = some b
  rw [if_pos m]
  exact s
theorem meta_VE : PySem.W.kitMeta "ValueError" = true := by decide +kernel
theorem isE_self (e : ExcC K D) (q : Q (.bl true) H) : rIsE2 K (.ref D) none a [.ref a, .ref D] H Q := ⟨D, .ref D, .ref D, true, rfl, rfl, e, rfl, .own D, kit_self, q⟩
theorem isE_VE (e : ExcC K D) (s : PySem.W.subIn K (.ref D) (.type "ValueError") = some true) (q : Q (.bl true) H) : rIsE2 K (.ref D) none a [.ref a, .ty "ValueError"] H Q := ⟨D, .ty "ValueError", .type "ValueError", true, rfl, rfl, e, rfl, .ty "ValueError", kit_bty meta_VE s, q⟩
theorem isE_own {C : Addr} {b : Bool} (e : ExcC K D) (k : PySem.W.kitOne K (.ref D) (.ref C) = some b) (q : Q (.bl b) H) : rIsE2 K (.ref D) none a [.ref a, .ref C] H Q := ⟨D, .ref C, .ref C, b, rfl, rfl, e, rfl, .own C, k, q⟩
theorem isET_none (Cs : List Addr) {tp : Addr} (e : ExcC K D) (ht : H tp = some (.tup (Cs.map V.ref))) (h : ∀ C ∈ Cs, PySem.W.kitOne K (.ref D) (.ref C) = some false) (q : Q (.bl false) H) : rIsET K (.ref D) none a [.ref a, .ref tp] H Q :=
  ⟨D, tp, _, _, false, rfl, rfl, e, rfl, ht, cls_all Cs, kit_none h, q⟩
theorem ErrC.no {x : Str} {C : Addr} (h : ErrC K mg x C) (s : PySem.W.subIn K (.ref D) (.ref C) = some false ∧ D ≠ C) : PySem.W.kitOne K (.ref D) (.ref C) = some false :=
  kit_own h.e.hd h.t (by simpa using s.2) s.1
end
/-! ## the written part by its letter -/
section
variable {X : Cx} (K : PySem.W.Frag)
theorem ixlK (h : X.K = K := by rfl) : IxR X (rIxL K) := by subst h; exact ix_list
theorem ixtK (h : X.K = K := by rfl) : IxR X (rIxT K) := by subst h; exact ix_tup
theorem sllK (h : X.K = K := by rfl) : SlR X (rSlL K) := by subst h; exact sl_list
theorem sltK (h : X.K = K := by rfl) : SlR X (rSlT K) := by subst h; exact sl_tup
theorem lenK (h : X.K = K := by rfl) : CallR X (.builtin "len") (rLenA K) := by subst h; exact call_len_seq
theorem isiK (h : X.K = K := by rfl) : CallR X (.builtin "isinstance") (rIsi K) := by subst h; exact call_isi
theorem eqDK (hu : X.A.units + 64 < cLine) (h : X.K = K := by rfl) : OpR X (compareOp .Eq) (rEqD K) := by subst h; exact op_eqD hu
theorem neDK (hu : X.A.units + 64 < cLine) (h : X.K = K := by rfl) : OpR X (compareOp .NotEq) (rNeD K) := by subst h; exact op_neD hu
theorem catTK (h : X.K = K := by rfl) : OpR X (binaryOp .Add) (rCatT K) := by subst h; exact op_catT
theorem inK (h : X.K = K := by rfl) : OpR X (compareOp .In) (rIn K false) := by subst h; exact op_in_seq
theorem notInK (h : X.K = K := by rfl) : OpR X (compareOp .NotIn) (rIn K true) := by subst h; exact op_notIn_seq
theorem fldK {e : Expr} {f : Str} {ta : TE} {pos : Pos} (he : PE X e ta) (hb : attributeBase e f X.env (eval e X.env) = eval e X.env) (h : X.K = K := by rfl) : PE X (.Attribute e f pos) (tFld K ta f) := by subst h; exact pe_fld he hb
theorem piLK {tg l : Expr} {tl : TE} (hl : PE X l tl) (h : X.K = K := by rfl) : PI X tg l (iList K tl) := by subst h; exact pi_list hl
theorem piTK {tg l : Expr} {tl : TE} (hl : PE X l tl) (h : X.K = K := by rfl) : PI X tg l (iTup K tl) := by subst h; exact pi_tup hl
theorem pgTK (n : Nat) {es : List Expr} {k : Nat} {t : TGs} {pos : Pos} (hc : X.calm = true) (q : PGs X es t) (hn : (assignEach es X.env).length = n := by rfl) (hst : (assignEach es X.env).findIdx? (·.1) = none := by rfl) (h : X.K = K := by rfl) :
    PG X (.Tuple es k pos) (gTup K n t) := by subst h; exact pg_tup hc q hn hst
def rListOf : List V → Hp → VK → Prop := fun xs H Q => ∃ p ys, xs = [.ref p] ∧ (SqL K H p ys ∨ SqT K H p ys) ∧ ∀ l, H l = none → Q (.ref l) (upd H l (.lst ys))
theorem listK (h : X.K = K := by rfl) : CallR X (.type "list") (rListOf K) := by subst h; exact call_list_of
def rTupOf : List V → Hp → VK → Prop := fun xs H Q => ∃ p ys, xs = [.ref p] ∧ ((SqL K H p ys ∧ ∀ l, H l = none → Q (.ref l) (upd H l (.tup ys))) ∨ (SqT K H p ys ∧ Q (.ref p) H))
theorem tupK (h : X.K = K := by rfl) : CallR X (.type "tuple") (rTupOf K) := by subst h; exact call_tuple_of
end
section
variable {K : PySem.W.Frag} {H : Hp} {Q : VK} {p : Addr} {ys : List V}
theorem listOf_l (h : SqL K H p ys) (k : ∀ l H', H l = none → Kp [] H H' → H' l = some (.lst ys) → Q (.ref l) H') : rListOf K [.ref p] H Q := ⟨p, ys, rfl, .inl h, fun l hl => k l _ hl (Kp.new hl) upd_same⟩
theorem listOf_t (h : SqT K H p ys) (k : ∀ l H', H l = none → Kp [] H H' → H' l = some (.lst ys) → Q (.ref l) H') : rListOf K [.ref p] H Q := ⟨p, ys, rfl, .inr h, fun l hl => k l _ hl (Kp.new hl) upd_same⟩
theorem tupOf_l (h : SqL K H p ys) (k : ∀ l H', H l = none → Kp [] H H' → H' l = some (.tup ys) → Q (.ref l) H') : rTupOf K [.ref p] H Q := ⟨p, ys, rfl, .inl ⟨h, fun l hl => k l _ hl (Kp.new hl) upd_same⟩⟩
theorem tupOf_t (h : SqT K H p ys) (k : Q (.ref p) H) : rTupOf K [.ref p] H Q := ⟨p, ys, rfl, .inr ⟨h, k⟩⟩
/-- xs.append(y) -/
def BmQ (K : PySem.W.Frag) (T : String) (x : V) (H : Hp) (R : Prop) : Prop := tyV K T x H ∧ R
theorem u_bm {T : String} {r : V → List V → Hp → VK → Prop} {to : TE} {t : TA} {σ : L2.St} (h : to σ H fun x H1 => BmQ K T x H1 (t σ H1 fun xs H2 => r x xs H2 Q)) : tBM K T r to t σ H Q := h
theorem bm_list {R : Prop} {a : Addr} {xs : List V} (h : H a = some (.lst xs)) (q : R) : BmQ K "list" (.ref a) H R := ⟨.inl ⟨rfl, _, sql h⟩, q⟩
theorem u_append {l : Addr} {xs : List V} {y : V} (h : H l = some (.lst xs)) (hl : xs.length < 100000) (k : ∀ H', Kp [l] H H' → H' l = some (.lst (xs ++ [y])) → Q .non H') : rAppend (.ref l) [y] H Q :=
  ⟨l, xs, y, rfl, rfl, h, Nat.lt_of_lt_of_le hl (by decide), k _ Kp.mut upd_same⟩
end
/-! ## comprehensions -/
def EndQ (a b : L2.St) (R : Prop) : Prop := a = b ∧ R
theorem endQ {a b : L2.St} {R : Prop} (e : a = b) (h : R) : EndQ a b R := ⟨e, h⟩
def AppQ (D : Addr) (acc : List V) (y : V) (H : Hp) (P : Hp → Prop) : Prop := H D = some (.lst acc) ∧ acc.length < sizeLine ∧ ∀ H', Kp [D] H H' → H' D = some (.lst (acc ++ [y])) → P H'
theorem appQ {D : Addr} {acc : List V} {y : V} {H : Hp} {P : Hp → Prop} (h : H D = some (.lst acc)) (hl : acc.length < 100000) (k : ∀ H', Kp [D] H H' → H' D = some (.lst (acc ++ [y])) → P H') : AppQ D acc y H P := ⟨h, Nat.lt_of_lt_of_le hl (by decide), k⟩
def LcQ (J : It) (g : TG) (tt : TT) (te : TE) (vs : List Nat) (σ : L2.St) (Q : VK) (H1 : Hp) : Prop := ∀ D, H1 D = none → ∃ W : Nat → Nat → Hp → Prop, (∃ m, W 0 m (upd H1 D (.lst []))) ∧ ∀ i m H, W i m H →
  (J.stop i H ∧ Q (.ref D) H) ∨ (J.go i H ∧ ∃ Nx : Hp → Prop, (∀ H', Nx H' → ∃ m', m' < m ∧ W (i + 1) m' H') ∧ ∀ x H', J.yld i H x H' → g x (wipe σ vs) H' fun σ2 H2 => wipe σ2 vs = wipe σ vs ∧ tt σ2 H2 fun b H3 =>
    if b = true then te σ2 H3 fun y H4 => ∃ acc, H4 D = some (.lst acc) ∧ acc.length < sizeLine ∧ Nx (upd H4 D (.lst (acc ++ [y]))) else Nx H3)
section
variable {K : PySem.W.Frag} {g : TG} {tt : TT} {te : TE} {vs : List Nat} {σ : L2.St} {H : Hp} {Q : VK}
theorem u_lc {wi : TI} (h : wi σ H fun J H1 => LcQ J g tt te vs σ Q H1) : tLc wi g tt te vs σ H Q := h
theorem u_yes {Q : Bool → Hp → Prop} (q : Q true H) : tYes σ H Q := q
def AppE (D : Addr) (y : V) (H : Hp) (Nx : Hp → Prop) : Prop := ∃ acc, H D = some (.lst acc) ∧ acc.length < sizeLine ∧ Nx (upd H D (.lst (acc ++ [y])))
theorem appE {D : Addr} {acc : List V} {y : V} {Nx : Hp → Prop} (h : H D = some (.lst acc)) (hl : acc.length < 100000) (k : ∀ H', Kp [D] H H' → H' D = some (.lst (acc ++ [y])) → Nx H') : AppE D y H Nx :=
  ⟨acc, h, Nat.lt_of_lt_of_le hl (by decide), k _ Kp.mut upd_same⟩
theorem l_lcL {a : Addr} (xs : List V) (Pv : Addr → Nat → Hp → Prop) (h0 : ∀ D H', H D = none → Kp [] H H' → H' D = some (.lst []) → Pv D 0 H') (hl : ∀ D i H', i ≤ xs.length → Pv D i H' → SqL K H' a xs)
    (hs : ∀ D i x H', H D = none → xs[i]? = some x → Pv D i H' → g x (wipe σ vs) H' fun σ2 H2 => EndQ (wipe σ2 vs) (wipe σ vs) (tt σ2 H2 fun b H3 => Br b (fun H4 => te σ2 H4 fun y H5 => AppE D y H5 (Pv D (i + 1))) (Pv D (i + 1)) H3))
    (hd : ∀ D H', H D = none → Pv D xs.length H' → Q (.ref D) H') : LcQ (Itl K a) g tt te vs σ Q H := fun D hD =>
  lc_list (xs := xs) (Pv D) (h0 D _ hD (Kp.new hD) upd_same) (hl D) (fun i x H' hx p => hs D i x H' hD hx p) (fun H' p => hd D H' hD p)
theorem l_lcT {a : Addr} (xs : List V) (Pv : Addr → Nat → Hp → Prop) (h0 : ∀ D H', H D = none → Kp [] H H' → H' D = some (.lst []) → Pv D 0 H') (hl : ∀ D i H', i ≤ xs.length → Pv D i H' → SqT K H' a xs)
    (hs : ∀ D i x H', H D = none → xs[i]? = some x → Pv D i H' → g x (wipe σ vs) H' fun σ2 H2 => EndQ (wipe σ2 vs) (wipe σ vs) (tt σ2 H2 fun b H3 => Br b (fun H4 => te σ2 H4 fun y H5 => AppE D y H5 (Pv D (i + 1))) (Pv D (i + 1)) H3))
    (hd : ∀ D H', H D = none → Pv D xs.length H' → Q (.ref D) H') : LcQ (Itt K a) g tt te vs σ Q H := fun D hD =>
  lc_tup (xs := xs) (Pv D) (h0 D _ hD (Kp.new hD) upd_same) (hl D) (fun i x H' hx p => hs D i x H' hD hx p) (fun H' p => hd D H' hD p)
theorem l_lcR {lo : Int} {n : Nat} (Pv : Addr → Nat → Hp → Prop) (h0 : ∀ D H', H D = none → Kp [] H H' → H' D = some (.lst []) → Pv D 0 H')
    (hs : ∀ D i H', H D = none → i < n → Pv D i H' → g (.int (lo + i)) (wipe σ vs) H' fun σ2 H2 => EndQ (wipe σ2 vs) (wipe σ vs) (tt σ2 H2 fun b H3 => Br b (fun H4 => te σ2 H4 fun y H5 => AppE D y H5 (Pv D (i + 1))) (Pv D (i + 1)) H3))
    (hd : ∀ D H', H D = none → Pv D n H' → Q (.ref D) H') : LcQ (Itr lo n) g tt te vs σ Q H := fun D hD =>
  lc_range (Pv D) (h0 D _ hD (Kp.new hD) upd_same) (fun i H' hx p => hs D i H' hD hx p) (fun H' p => hd D H' hD p)
end
/-! ## methods called, defs called in a try -/
def MethQ (C : Addr) (m : Str) (x : V) (H : Hp) (R : Prop) : Prop := ∃ a dx fs, x = .ref a ∧ H a = some (.ins C dx fs) ∧ fs.lookup m = none ∧ R
theorem u_meth {C : Addr} {m : Str} {sp : Sp} {E : XK} {ta : TE} {t : TA} {σ : L2.St} {H : Hp} {Q : VK} (h : ta σ H fun x H1 => MethQ C m x H1 (t σ H1 fun vs H2 => sp (x :: (vs ++ [])) H2 Q E)) : tMeth C m sp [] E ta t σ H Q := h
theorem u_callS {sp : Sp} {E : L2.St → XK} {t : TA} {σ : L2.St} {H : Hp} {Q : VK} (h : t σ H fun vs H1 => sp (vs ++ []) H1 Q (E σ)) : tCallS sp E t σ H Q := by
  have e : (fun (vs : List V) (H1 : Hp) => sp (vs ++ []) H1 Q (E σ)) = fun vs H1 => sp vs H1 Q (E σ) := by funext vs H1; rw [List.append_nil]
  rw [e] at h
  exact h
section
variable {X : Cx} {CX : CXT} {k : Nat} {C : Addr} {x m : Str} {ps : List Str} {sp : Sp} {E : XK} {p pos apos : Pos} {e o : Expr} {es : List Expr} {ta : TE} {t : TA}
theorem pe_mc {pl : Sem Bool} (F : Mc X.prog X.w X.K X.mg X.base CX k C m ps sp) (c : Cls X.K C) (hx : Passes CX X E) (hr : Room k X.A) (he : PE X o ta) (ha : PA X (e :: es) t)
    (hst : starEach (e :: es) X.env = (false, eval e X.env) :: starEach es X.env := by rfl) (hpl : (backTo pos (starEach es X.env)).any (·.1) = false := by rfl)
    (ht : eval (.Call (.Attribute o m apos) (e :: es) [] pos) X.env = (eval o X.env >>= fun ov => standAt apos.atName >>= fun _ => holding [ov] (getMethod ov m pl) >>= fun y => callWith pos y.1 y.2 (backTo pos (starEach (e :: es) X.env)) (backToKw pos (keywordEach [] X.env))) := by rfl) :
    PE X (.Call (.Attribute o m apos) (e :: es) [] pos) (tMeth C m sp [] E ta t) := by
  obtain ⟨f, fd, ok, a, i, kp, b⟩ := F
  exact pe_meth (pl := pl) he c ⟨a, i, kp⟩ ok hr b .nil hx ha hst hpl ht
theorem pe_fcS {E : L2.St → XK} (F : Fc X.prog X.w X.K X.mg X.base CX k x ps sp) (hx : ∀ σ, PassesAt CX X σ (E σ)) (hr : Room k X.A) (ha : PA X (e :: es) t) (hg : Gl X x := by rfl) (hdb : (x == ("__debug__" : Str)) = false := by decide)
    (he : starEach (e :: es) X.env = (false, eval e X.env) :: starEach es X.env := by rfl) (hpl : (backTo pos (starEach es X.env)).any (·.1) = false := by rfl) : PE X (.Call (.Name x p) (e :: es) [] pos) (tCallS sp E t) := by
  obtain ⟨f, fd, F, hm, hk, hb⟩ := F
  exact pe_callS F hr hg hm hk hb hx ha hdb he hpl
end
end U
set_option linter.all false
set_option autoImplicit false
namespace Fr
/-- t / b is u / d in lowest terms -/
def Fr (t b u d : Int) : Prop := 1 ≤ b ∧ Nat.gcd t.natAbs b.natAbs = 1 ∧ t * d = u * b
theorem Fr.val {t b U D U' D' : Int} (h : Fr t b U D) (hD : 1 ≤ D) (e : U * D' = U' * D) : Fr t b U' D' := by
  obtain ⟨h1, h2, h3⟩ := h
  refine ⟨h1, h2, ?_⟩
  have hne : D ≠ 0 := by omega
  refine Int.eq_of_mul_eq_mul_right hne ?_
  grind
theorem Fr.dvd {t b u d : Int} (h : Fr t b u d) : b.natAbs ∣ d.natAbs := by
  obtain ⟨h1, h2, h3⟩ := h
  have e : t.natAbs * d.natAbs = u.natAbs * b.natAbs := by rw [← Int.natAbs_mul, ← Int.natAbs_mul, h3]
  have hd : b.natAbs ∣ t.natAbs * d.natAbs := by rw [e]; exact Nat.dvd_mul_left _ _
  exact Nat.Coprime.dvd_of_dvd_mul_left (Nat.Coprime.symm h2) hd
theorem Fr.le {t b u d : Int} (h : Fr t b u d) (hd : 1 ≤ d) : b ≤ d := by
  have q := Nat.le_of_dvd (by omega) h.dvd
  omega
theorem Fr.absle {t b u d : Int} (h : Fr t b u d) (hd : 1 ≤ d) : t.natAbs ≤ u.natAbs := by
  have hb := h.le hd
  obtain ⟨h1, h2, h3⟩ := h
  have e : t.natAbs * d.natAbs = u.natAbs * b.natAbs := by rw [← Int.natAbs_mul, ← Int.natAbs_mul, h3]
  have l : b.natAbs ≤ d.natAbs := by omega
  have l2 : t.natAbs * d.natAbs ≤ u.natAbs * d.natAbs := by rw [e]; exact Nat.mul_le_mul_left _ l
  exact Nat.le_of_mul_le_mul_right l2 (by omega)
theorem Fr.init {u d : Int} (hd : 1 ≤ d) : Fr (u / ((Nat.gcd u.natAbs d.natAbs : Nat) : Int)) (d / ((Nat.gcd u.natAbs d.natAbs : Nat) : Int)) u d := by
  obtain ⟨g, hg⟩ : ∃ g, g = Nat.gcd u.natAbs d.natAbs := ⟨_, rfl⟩
  have gp : 0 < g := by rw [hg]; exact Nat.gcd_pos_of_pos_right _ (by omega)
  have du : ((g : Nat) : Int) ∣ u := by rw [hg]; exact Int.ofNat_dvd_left.mpr (Nat.gcd_dvd_left _ _)
  have dd : ((g : Nat) : Int) ∣ d := by rw [hg]; exact Int.ofNat_dvd_left.mpr (Nat.gcd_dvd_right _ _)
  rw [← hg]
  obtain ⟨a, ha⟩ := du
  obtain ⟨b, hb⟩ := dd
  have gne : ((g : Nat) : Int) ≠ 0 := by omega
  have ea : u / (g : Int) = a := by rw [ha]; exact Int.mul_ediv_cancel_left _ gne
  have eb : d / (g : Int) = b := by rw [hb]; exact Int.mul_ediv_cancel_left _ gne
  rw [ea, eb]
  have bp : 1 ≤ b := by
    rcases Int.lt_or_le b 1 with hlt | hle
    · have : (g : Int) * b ≤ 0 := Int.mul_nonpos_of_nonneg_of_nonpos (by omega) (by omega)
      omega
    · exact hle
  refine ⟨bp, ?_, ?_⟩
  · have e1 : u.natAbs = g * a.natAbs := by rw [ha, Int.natAbs_mul]; simp
    have e2 : d.natAbs = g * b.natAbs := by rw [hb, Int.natAbs_mul]; simp
    rw [e1, e2, Nat.gcd_mul_left] at hg
    have q : g * 1 = g * Nat.gcd a.natAbs b.natAbs := by rw [Nat.mul_one]; exact hg
    exact (Nat.eq_of_mul_eq_mul_left gp q).symm
  · rw [ha, hb]
    grind
theorem Fr.gpos {u d : Int} (hd : 1 ≤ d) : (0 : Int) < ((Nat.gcd u.natAbs d.natAbs : Nat) : Int) := by
  have := Nat.gcd_pos_of_pos_right u.natAbs (n := d.natAbs) (by omega)
  omega
theorem Fr.gle {u d : Int} (hd : 1 ≤ d) : ((Nat.gcd u.natAbs d.natAbs : Nat) : Int) ≤ d := by
  have := Nat.gcd_le_right u.natAbs (n := d.natAbs) (by omega)
  omega
theorem Fr.one {u : Int} {t b d : Int} (h : Fr t b u d) : Fr t b t b := ⟨h.1, h.2.1, rfl⟩
theorem Fr.eq_iff {t b u d t' b' u' d' : Int} (h : Fr t b u d) (h' : Fr t' b' u' d') (hd : 1 ≤ d) (hd' : 1 ≤ d') : (t = t' ∧ b = b') ↔ u * d' = u' * d := by
  constructor
  · rintro ⟨rfl, rfl⟩
    obtain ⟨h1, _, h3⟩ := h
    obtain ⟨_, _, h3'⟩ := h'
    refine Int.eq_of_mul_eq_mul_right (a := b) (by omega) ?_
    grind
  · intro e
    have g : Fr t b u' d' := h.val hd e
    have dv := g.dvd
    have e2 : t * b' = t' * b := by
      obtain ⟨h1, _, h3⟩ := g
      obtain ⟨_, _, h3'⟩ := h'
      refine Int.eq_of_mul_eq_mul_right (a := d') (by omega) ?_
      grind
    have f : Fr t b t' b' := ⟨h.1, h.2.1, e2⟩
    have f' : Fr t' b' t b := ⟨h'.1, h'.2.1, e2.symm⟩
    have l1 := f.le h'.1
    have l2 := f'.le h.1
    have eb : b = b' := by omega
    refine ⟨?_, eb⟩
    rw [eb] at e2
    have := h'.1
    exact Int.eq_of_mul_eq_mul_right (by omega) e2
theorem Fr.add {t b u d t' b' u' d' x y : Int} (h : Fr t b u d) (h' : Fr t' b' u' d') (s : Fr x y (t * b' + t' * b) (b * b')) : Fr x y (u * d' + u' * d) (d * d') := by
  refine s.val (Int.mul_pos h.1 h'.1) ?_
  obtain ⟨_, _, h3⟩ := h
  obtain ⟨_, _, h3'⟩ := h'
  grind
theorem Fr.sub {t b u d t' b' u' d' x y : Int} (h : Fr t b u d) (h' : Fr t' b' u' d') (s : Fr x y (t * b' - t' * b) (b * b')) : Fr x y (u * d' - u' * d) (d * d') := by
  refine s.val (Int.mul_pos h.1 h'.1) ?_
  obtain ⟨_, _, h3⟩ := h
  obtain ⟨_, _, h3'⟩ := h'
  grind
end Fr
set_option linter.all false
set_option autoImplicit false
namespace Fr
theorem Fr.mul {t b u d t' b' u' d' x y : Int} (h : Fr t b u d) (h' : Fr t' b' u' d') (s : Fr x y (t * t') (b * b')) : Fr x y (u * u') (d * d') := by
  refine s.val (Int.mul_pos h.1 h'.1) ?_
  obtain ⟨_, _, h3⟩ := h
  obtain ⟨_, _, h3'⟩ := h'
  grind
theorem mul_le_iff {a b c : Int} (hc : 0 < c) : a * c ≤ b * c ↔ a ≤ b := ⟨fun h => Int.le_of_mul_le_mul_right h hc, fun h => Int.mul_le_mul_of_nonneg_right h (Int.le_of_lt hc)⟩
theorem Fr.le_iff {t b u d t' b' u' d' : Int} (h : Fr t b u d) (h' : Fr t' b' u' d') (hd : 1 ≤ d) (hd' : 1 ≤ d') : t * b' ≤ t' * b ↔ u * d' ≤ u' * d := by
  have p : 0 < b * b' := Int.mul_pos h.1 h'.1
  have q : 0 < d * d' := Int.mul_pos hd hd'
  have e1 : (t * b') * (d * d') = (u * d') * (b * b') := by
    obtain ⟨_, _, h3⟩ := h
    grind
  have e2 : (t' * b) * (d * d') = (u' * d) * (b * b') := by
    obtain ⟨_, _, h3⟩ := h'
    grind
  rw [← mul_le_iff q, e1, e2, mul_le_iff p]
theorem Fr.pow {t b u d : Int} (h : Fr t b u d) (n : Nat) : Fr (t ^ n) (b ^ n) (t ^ n) (b ^ n) := by
  refine ⟨?_, ?_, rfl⟩
  · have : 0 < b ^ n := Int.pow_pos h.1
    omega
  · rw [Int.natAbs_pow, Int.natAbs_pow]
    exact Nat.Coprime.pow n n h.2.1
/-- the step of a power -/
theorem Fr.pow_step {t b u d x y : Int} (h : Fr t b u d) (n : Nat) (s : Fr x y (t ^ n * t) (b ^ n * b)) : x = t ^ (n + 1) ∧ y = b ^ (n + 1) := by
  have q := h.pow (n + 1)
  rw [← Int.pow_succ, ← Int.pow_succ] at s
  exact (Fr.eq_iff s q q.1 q.1).mpr rfl
theorem Fr.self_eq {x y : Int} {t b u d : Int} (h : Fr t b u d) (s : Fr x y t b) : x = t ∧ y = b := (Fr.eq_iff s h.one h.1 h.1).mpr rfl
theorem Fr.abs {t b u d : Int} (h : Fr t b u d) (hd : 1 ≤ d) : Fr (t.natAbs : Int) b (u.natAbs : Int) d := by
  obtain ⟨h1, h2, h3⟩ := h
  refine ⟨h1, by simpa using h2, ?_⟩
  have q := congrArg Int.natAbs h3
  rw [Int.natAbs_mul, Int.natAbs_mul] at q
  have e1 : ((t.natAbs * d.natAbs : Nat) : Int) = ((u.natAbs * b.natAbs : Nat) : Int) := by rw [q]
  have e2 : (d.natAbs : Int) = d := by omega
  have e3 : (b.natAbs : Int) = b := by omega
  rw [Int.natCast_mul, Int.natCast_mul, e2, e3] at e1
  exact e1
/-- the sum of a row -/
def sumStep (s : Int × Int) (f : Int × Int) : Int × Int := (s.1 * f.2 + f.1 * s.2, s.2 * f.2)
def sumRow (l : List (Int × Int)) : Int × Int := l.foldl sumStep (0, 1)
theorem take_more {α : Type} : ∀ {l : List α} {i : Nat} {x : α}, l[i]? = some x → l.take (i + 1) = l.take i ++ [x]
  | [], i, x, h => by simp at h
  | a :: l, 0, x, h => by simp at h; simp [h]
  | a :: l, i + 1, x, h => by
    have := take_more (l := l) (i := i) (x := x) (by simpa using h)
    simp [this]
theorem sum_more {l : List (Int × Int)} {i : Nat} {f : Int × Int} (h : l[i]? = some f) : sumRow (l.take (i + 1)) = sumStep (sumRow (l.take i)) f := by
  unfold sumRow
  rw [take_more h, List.foldl_append]
  rfl
/-- the greatest of a row -/
def bestStep (s : Int × Int) (f : Int × Int) : Int × Int := if f.1 * s.2 > s.1 * f.2 then f else s
def bestRow (l : List (Int × Int)) : Int × Int := l.foldl bestStep (0, 1)
theorem best_more {l : List (Int × Int)} {i : Nat} {f : Int × Int} (h : l[i]? = some f) : bestRow (l.take (i + 1)) = bestStep (bestRow (l.take i)) f := by
  unfold bestRow
  rw [take_more h, List.foldl_append]
  rfl
theorem le_trans' {a b c d e f : Int} (hb : 1 ≤ b) (hd : 1 ≤ d) (hf : 1 ≤ f) (h1 : a * d ≤ c * b) (h2 : c * f ≤ e * d) : a * f ≤ e * b := by
  have p : 0 < d := hd
  rw [← mul_le_iff p]
  have e1 : a * f * d = a * d * f := by grind
  have e2 : e * b * d = e * d * b := by grind
  rw [e1, e2]
  have q1 : a * d * f ≤ c * b * f := Int.mul_le_mul_of_nonneg_right h1 (by omega)
  have q2 : c * f * b ≤ e * d * b := Int.mul_le_mul_of_nonneg_right h2 (by omega)
  have e3 : c * b * f = c * f * b := by grind
  omega
theorem best_all : ∀ (l : List (Int × Int)) (s : Int × Int), 1 ≤ s.2 → (∀ f ∈ l, 1 ≤ f.2) → 1 ≤ (l.foldl bestStep s).2 ∧ s.1 * (l.foldl bestStep s).2 ≤ (l.foldl bestStep s).1 * s.2 ∧ ∀ f ∈ l, f.1 * (l.foldl bestStep s).2 ≤ (l.foldl bestStep s).1 * f.2
  | [], s, hs, _ => ⟨hs, Int.le_refl _, fun f hf => by cases hf⟩
  | g :: r, s, hs, hl => by
    have hg := hl g List.mem_cons_self
    have hm : 1 ≤ (bestStep s g).2 := by unfold bestStep; split <;> assumption
    have a1 : s.1 * (bestStep s g).2 ≤ (bestStep s g).1 * s.2 := by
      unfold bestStep; split
      · omega
      · exact Int.le_refl _
    have a2 : g.1 * (bestStep s g).2 ≤ (bestStep s g).1 * g.2 := by
      unfold bestStep; split
      · exact Int.le_refl _
      · omega
    obtain ⟨q1, q2, q3⟩ := best_all r (bestStep s g) hm fun f hf => hl f (List.mem_cons_of_mem _ hf)
    refine ⟨q1, le_trans' hs hm q1 a1 q2, fun f hf => ?_⟩
    rcases List.mem_cons.mp hf with rfl | hf
    · exact le_trans' hg hm q1 a2 q2
    · exact q3 f hf
theorem best_mem : ∀ (l : List (Int × Int)) (s : Int × Int), l.foldl bestStep s = s ∨ l.foldl bestStep s ∈ l
  | [], s => .inl rfl
  | g :: r, s => by
    show r.foldl bestStep (bestStep s g) = s ∨ r.foldl bestStep (bestStep s g) ∈ g :: r
    have h1 : bestStep s g = s ∨ bestStep s g = g := by unfold bestStep; split <;> simp
    rcases best_mem r (bestStep s g) with h | h
    · rw [h]
      rcases h1 with h1 | h1
      · exact .inl h1
      · rw [h1]; exact .inr List.mem_cons_self
    · exact .inr (List.mem_cons_of_mem _ h)
end Fr
set_option Elab.async false
set_option linter.all false
set_option autoImplicit false
set_option maxRecDepth 100000
set_option maxHeartbeats 4000000
namespace My
open PySem PySem.Spec PyProof.Rows L2 U
/-! my own steps: rows of tactics, tried from above -/
local macro_rules | `(tactic| tm_at "lk") => `(tactic| first | with_reducible assumption | (with_reducible refine' Kp.get0 ?k1 ?k2; (case k1 => with_reducible assumption); (case k2 => tm_at "lk")) | (with_reducible refine' Kp.get1 ?k1 ?k3 ?k2; (case k1 => with_reducible assumption); (case k3 => tm_at "ne"); (case k2 => tm_at "lk")) | fail)
local macro_rules | `(tactic| tm_at "lp") => `(tactic| first | with_reducible assumption | (with_reducible refine' Pool.kp0 ?k1 ?k2; (case k1 => with_reducible assumption); (case k2 => tm_at "lp")) | (with_reducible refine' Pool.kp1 ?k1 ?k3 ?k2; (case k1 => with_reducible assumption); (case k3 => tm_at "ne"); (case k2 => tm_at "lp")) | fail)
local macro_rules | `(tactic| tm_at "ls") => `(tactic| first | with_reducible assumption | (with_reducible refine' Scr.kp0 ?k1 ?k2; (case k1 => with_reducible assumption); (case k2 => tm_at "ls")) | (with_reducible refine' Scr.kp1 ?k1 ?k3 ?k4 ?k2; (case k1 => with_reducible assumption); (case k3 => with_reducible assumption); (case k4 => tm_at "ls"); (case k2 => tm_at "ls")) | fail)
local macro_rules | `(tactic| tm_at "ne") => `(tactic| first | with_reducible assumption | (with_reducible refine' Ne.symm ?k1; with_reducible assumption) | (with_reducible refine' ne_new ?k1 ?k2; (case k1 => with_reducible assumption); (case k2 => tm_at "lk")) | (with_reducible refine' ne_new' ?k1 ?k2; (case k1 => with_reducible assumption); (case k2 => tm_at "lk")) | (with_reducible refine' Pool.ne ?k1 ?k2; (case k1 => with_reducible assumption); (case k2 => tm_at "lp")) | (with_reducible refine' Ne.symm (Pool.ne ?k1 ?k2); (case k1 => with_reducible assumption); (case k2 => tm_at "lp")) | fail)
local macro_rules | `(tactic| tm_at "kc") => `(tactic| first | with_reducible assumption | with_reducible exact Kp.refl | (with_reducible refine' Kp.trans ?k1 (Kp.of0 ?k2); (case k2 => with_reducible assumption); (case k1 => tm_at "kc")) | (with_reducible refine' Kp.trans ?k1 ?k2; (case k2 => with_reducible assumption); (case k1 => tm_at "kc")) | (with_reducible refine' Kp.low' ?k1 ?k2 ?k3 ?k4; (case k2 => with_reducible assumption); (case k3 => with_reducible assumption); (case k1 => tm_at "kc"); (case k4 => tm_at "kc")) | fail)
local macro_rules | `(tactic| tm_at "sq") => `(tactic| first | (with_reducible refine' sql ?k9; (case k9 => tm_at "lk")) | (with_reducible refine' Scr.sq ?k9; (case k9 => tm_at "ls")) | fail)
local macro_rules | `(tactic| tm_at "sqt") => `(tactic| first | (with_reducible refine' sqt ?k9; (case k9 => tm_at "lk")) | fail)
local macro_rules | `(tactic| tm_at "bt") => `(tactic| first | with_reducible assumption | (with_reducible refine' Bt.mul ?k1 ?k2; (case k1 => tm_at "bt"); (case k2 => tm_at "bt")) | (with_reducible refine' Bt.addM ?k1 ?k2; (case k1 => tm_at "bt"); (case k2 => tm_at "bt")) | (with_reducible refine' Bt.subM ?k1 ?k2; (case k1 => tm_at "bt"); (case k2 => tm_at "bt")) | (with_reducible refine' Bt.neg ?k1; (case k1 => tm_at "bt")) | fail)
local macro_rules | `(tactic| tm_at "bm") => `(tactic| first | with_reducible assumption | (with_reducible refine' Bt.mono ?k1 ?k2; (case k1 => with_reducible assumption); (case k2 => k_dflt decide)) | fail)
local macro_rules | `(tactic| tm_at "side") => `(tactic| first | with_reducible assumption | (with_reducible refine' Bt.cmul ?k1 ?k2 ?k3; (case k1 => tm_at "bt"); (case k2 => tm_at "bt"); (case k3 => k_dflt decide)) | (with_reducible refine cmul_of ?k1; (case k1 => omega)) | (with_reducible refine cpow_of ?k1; (case k1 => omega)) | (with_reducible refine cdivw_of ?k1; (case k1 => omega)) | (with_reducible refine cdivw_big ?k1; (case k1 => omega)) | (with_reducible refine cmulx_of ?k1; (case k1 => omega)) | omega | fail)
local macro_rules | `(tactic| tm_at "step") => `(tactic| first
  | with_reducible refine u_op ?_
  | (with_reducible refine' u_var ?k1 ?_; (case k1 => k_dflt rfl))
  | with_reducible refine u_c ?_
  | with_reducible refine u_I0 ?_
  | with_reducible refine u_seq ?_
  | with_reducible refine u_asg ?_
  | with_reducible refine g_name ?_
  | with_reducible refine u_cb ?_
  | with_reducible refine u_cons ?_
  | with_reducible refine u_nil ?_
  | (with_reducible refine' u_pow ?k1 ?k2 ?_; (case k1 => k_dflt (tm_at "side")); (case k2 => (conv => lhs; simp only [Int.reduceToNat, Int.reducePow]) <;> rfl))
  | (with_reducible refine' u_I ?k1 ?_; (case k1 => k_dflt (tm_at "side")))
  | with_reducible refine u_int1 ?_
  | with_reducible refine u_intB ?_
  | with_reducible refine u_if ?_
  | with_reducible refine u_test ?_
  | with_reducible refine u_tb ?_
  | with_reducible refine u_tB ?_
  | with_reducible refine u_eqI ?_
  | with_reducible refine u_neI ?_
  | with_reducible refine u_eqB ?_
  | with_reducible refine u_and ?_
  | with_reducible refine u_or ?_
  | with_reducible refine u_not ?_
  | with_reducible refine u_andV ?_
  | with_reducible refine u_orV ?_
  | with_reducible refine u_notV ?_
  | with_reducible refine br_t ?_
  | with_reducible refine br_f ?_
  | with_reducible refine br_nt ?_
  | with_reducible refine br_nf ?_
  | with_reducible refine br_n ?_
  | with_reducible refine u_ret ?_
  | with_reducible refine u_next ?_
  | with_reducible refine u_drop ?_
  | with_reducible refine u_un ?_
  | with_reducible refine u_U ?_
  | with_reducible refine u_call ?_
  | with_reducible refine u_fldN ?_
  | with_reducible refine g_sub ?_
  | with_reducible refine g_cons ?_
  | with_reducible refine g_nil ?_
  | with_reducible refine u_tpar ?_
  | (with_reducible refine u_absL ?_; intro m_ h1_ h2_)
  | (with_reducible refine u_maxL ?_; intro m_ h1_ h2_ h3_)
  | (with_reducible refine u_minL ?_; intro m_ h1_ h2_ h3_)
  | with_reducible refine u_gcd ?_
  | with_reducible refine u_isi_ii ?_
  | with_reducible refine u_isi_ib ?_
  | with_reducible refine u_isi_bb ?_
  | with_reducible refine u_tupN ?_
  | with_reducible refine u_lstN ?_
  | (with_reducible refine' u_ixL ?k1 ?k2 ?_; (case k1 => tm_at "sq"); (case k2 => first | with_reducible assumption | k_dflt rfl))
  | (with_reducible refine' u_ixT ?k1 ?k2 ?_; (case k1 => tm_at "sqt"); (case k2 => k_dflt rfl))
  | (with_reducible refine' g_tup ?k1 ?k2 ?_; (case k1 => tm_at "sqt"); (case k2 => k_dflt rfl))
  | (with_reducible refine' u_lenL ?k1 ?_; (case k1 => tm_at "sq"))
  | (with_reducible refine' u_lenT ?k1 ?_; (case k1 => tm_at "sqt"))
  | with_reducible refine u_for ?_
  | with_reducible refine u_iL ?_
  | with_reducible refine u_iT ?_
  | with_reducible refine u_r1 ?_
  | with_reducible refine u_r2 ?_
  | (with_reducible refine' u_iLq ?k1 ?_; (case k1 => tm_at "sq"))
  | (with_reducible refine' u_iTq ?k1 ?_; (case k1 => tm_at "sqt"))
  | (with_reducible refine' u_r1q ?k1 ?_; (case k1 => (constructor <;> omega)))
  | (with_reducible refine' u_r2q ?k1 ?_; (case k1 => (refine ⟨?_, ?_, ?_, ?_⟩ <;> omega)))
  | with_reducible refine u_lc ?_
  | with_reducible refine u_yes ?_
  | (with_reducible refine endQ ?k1 ?_; (case k1 => k_dflt rfl))
  | with_reducible refine u_meth ?_
  | with_reducible refine u_callS ?_
  | with_reducible refine u_bm ?_
  | (with_reducible refine' bm_list ?k1 ?_; (case k1 => tm_at "lk"))
  | (with_reducible refine' u_append ?k1 ?k2 ?_; (case k1 => tm_at "lk"); (case k2 => omega); intro H_ hk_ ho_)
  | (with_reducible refine' appE ?k1 ?k2 ?_; (case k1 => tm_at "lk"); (case k2 => omega); intro H_ hk_ ho_)
  | with_reducible refine u_sl ?_
  | with_reducible refine u_noPart ?_
  | with_reducible refine u_part ?_
  | with_reducible refine u_intq ?_
  | (with_reducible refine' u_slL ?k1 ?_; (case k1 => tm_at "sq"); intro p_ H_ hn_ hk_ ho_)
  | (with_reducible refine' n_tup ?k1 ?_; (case k1 => k_dflt (exact Nat.le_of_ble_eq_true rfl)); intro p_ H_ hn_ hk_ ho_)
  | (with_reducible refine' n_lst ?k1 ?_; (case k1 => k_dflt (exact Nat.le_of_ble_eq_true rfl)); intro p_ H_ hn_ hk_ ho_)
  | (with_reducible refine' s_list ?k1 ?k2 ?_; (case k1 => tm_at "lk"); (case k2 => k_dflt rfl); intro H_ hk_ ho_)
  | (with_reducible refine br_d ?_ ?_ <;> intro hc_) | fail)
local macro_rules | `(tactic| tm_at "run") => `(tactic| repeat' tm_at "step")
local macro_rules | `(tactic| tm_at "go") => `(tactic| ((try dsimp only [cxOf, Cx.nox, Cx.wish]); tm_at "run"))

/-! ## shares as objects -/
def shF (t b : Int) : List (Str × V) := [("top", .int t), ("bottom", .int b)]
theorem lk_hit {k : Str} {v : V} {r : List (Str × V)} : List.lookup k ((k, v) :: r) = some v := by
  simp only [List.lookup, beq_self_eq_true]
theorem lk_miss {k g : Str} {v : V} {r : List (Str × V)} (h : (k == g) = false) : List.lookup k ((g, v) :: r) = List.lookup k r := by
  simp only [List.lookup, h]
theorem shF_top (t b : Int) : (shF t b).lookup ("top" : Str) = some (.int t) := lk_hit
theorem sh_nb : (("bottom" : Str) == "top") = false := by decide +kernel
theorem shF_bottom (t b : Int) : (shF t b).lookup ("bottom" : Str) = some (.int b) := (lk_miss sh_nb).trans lk_hit
theorem shF_put (t b : Int) : putF "bottom" (.int b) (putF "top" (.int t) []) = shF t b := by
  have n : ¬ (("top" : Str) = "bottom") := by decide +kernel
  show (if ("top" : Str) = "bottom" then _ else (("top" : Str), V.int t) :: putF "bottom" (.int b) []) = _
  rw [if_neg n]
  rfl
def ShAt (C : Addr) (H : Hp) (p : Addr) (t b : Int) : Prop := ∃ dx, H p = some (.ins C dx (shF t b))
theorem ShAt.kp0 {C : Addr} {H H' : Hp} {p : Addr} {t b : Int} (k : Kp [] H H') (h : ShAt C H p t b) : ShAt C H' p t b := by
  obtain ⟨dx, e⟩ := h
  exact ⟨dx, k.get0 e⟩
theorem ShAt.kp1 {C : Addr} {H H' : Hp} {p q : Addr} {t b : Int} (k : Kp [q] H H') (n : p ≠ q) (h : ShAt C H p t b) : ShAt C H' p t b := by
  obtain ⟨dx, e⟩ := h
  exact ⟨dx, k.get1 n e⟩
local macro_rules | `(tactic| tm_at "sh") => `(tactic| first | with_reducible assumption | (with_reducible refine' ShAt.kp0 ?k1 ?k2; (case k1 => with_reducible assumption); (case k2 => tm_at "sh")) | (with_reducible refine' ShAt.kp1 ?k1 ?k3 ?k2; (case k1 => with_reducible assumption); (case k3 => tm_at "ne"); (case k2 => tm_at "sh")) | fail)
/-- what the text's top has written of Share -/
structure ShC (K : PySem.W.Frag) (mg : Str → Option Value) (C : Addr) : Prop where
  g : mg "Share" = some (.ref C)
  cl : Cls K C
  nt : NoAttr K C "top"
  nb : NoAttr K C "bottom"
  i : C8.InsC K C
  sf : PySem.W.selfFirst K C = true
  ty : PySem.W.typeIn K (.ref C) = some (.type "type")
  s_int : PySem.W.subIn K (.type "int") (.ref C) = some false
  s_bool : PySem.W.subIn K (.type "bool") (.ref C) = some false
  s_none : PySem.W.subIn K (.type "NoneType") (.ref C) = some false
  s_str : PySem.W.subIn K (.type "str") (.ref C) = some false
  s_tuple : PySem.W.subIn K (.type "tuple") (.ref C) = some false
  s_list : PySem.W.subIn K (.type "list") (.ref C) = some false
section
variable {K : PySem.W.Frag} {mg : Str → Option Value} {C : Addr} {H : Hp} {Q : VK} {p : Addr} {t b : Int}
theorem fld_top (S : ShC K mg C) (h : ShAt C H p t b) (q : Q (.int t) H) : FldOf K "top" (.ref p) H Q := by
  obtain ⟨dx, e⟩ := h
  exact fld_of S.cl S.nt e (shF_top t b) q
theorem fld_bottom (S : ShC K mg C) (h : ShAt C H p t b) (q : Q (.int b) H) : FldOf K "bottom" (.ref p) H Q := by
  obtain ⟨dx, e⟩ := h
  exact fld_of S.cl S.nb e (shF_bottom t b) q
theorem ty_share (S : ShC K mg C) (h : ShAt C H p t b) : TyX K H (.ref p) (.ref C) := by
  obtain ⟨dx, e⟩ := h
  exact .base (.ins e S.cl S.i.ha S.i.hn S.i.htk S.i.hm)
theorem isi_share (S : ShC K mg C) (h : ShAt C H p t b) (q : Q (.bl true) H) : rIsi K [.ref p, .ref C] H Q := ⟨_, _, _, _, true, rfl, .own C, ty_share S h, kit_self, q⟩
theorem isi_other (S : ShC K mg C) {x : V} {T : String} (ty : TyX K H x (.type T)) (s : PySem.W.subIn K (.type T) (.ref C) = some false) (q : Q (.bl false) H) : rIsi K [x, .ref C] H Q := ⟨_, _, _, _, false, rfl, .own C, ty, kit_own S.cl.hd S.ty rfl s, q⟩
end
local macro_rules | `(tactic| tm_at "step") => `(tactic| first | (with_reducible refine' fld_top (by assumption) ?k1 ?_; (case k1 => tm_at "sh")) | fail)
local macro_rules | `(tactic| tm_at "step") => `(tactic| first | (with_reducible refine' fld_bottom (by assumption) ?k1 ?_; (case k1 => tm_at "sh")) | fail)
local macro_rules | `(tactic| tm_at "step") => `(tactic| first | (with_reducible refine' isi_share (by assumption) ?k1 ?_; (case k1 => tm_at "sh")) | fail)
local macro_rules | `(tactic| tm_at "step") => `(tactic| first | with_reducible refine u_newI ?_ | fail)
local macro_rules | `(tactic| tm_at "step") => `(tactic| first | with_reducible refine u_newK ?_ | fail)
local macro_rules | `(tactic| tm_at "step") => `(tactic| first | with_reducible refine newK rfl rfl ?_ | fail)
local macro_rules | `(tactic| tm_at "step") => `(tactic| first | with_reducible refine u_sfld ?_ | fail)
/-- Share(top, bottom): refused, or the lowest terms -/
def spInit (C CB : Addr) : Sp := fun vs H Q E => ∃ (p dx : Addr) (u d : Int), vs = [.ref p, .int u, .int d] ∧ H p = some (.ins C dx []) ∧ Bt 8500 d ∧ (d < 1 → E (.ref CB) none H) ∧
  (1 ≤ d → ∀ H' t b, Kp [p] H H' → ShAt C H' p t b → Fr.Fr t b u d → Q .non H')
theorem k_share {C CB : Addr} {u d : Int} {H : Hp} {Q : VK} {E : XK} (hd : 1 ≤ d) (hb : Bt 8500 d) (k : ∀ p H' t b, H p = none → Kp [] H H' → ShAt C H' p t b → Fr.Fr t b u d → Q (.ref p) H') : NewI C (spInit C CB) ([.int u, .int d] ++ []) H Q E := by
  intro x dx nx ndx ne
  exact ⟨x, dx, u, d, rfl, upd_same, hb, fun h => absurd h (by omega), fun _ H' t b kp sh fr => ⟨rfl, k x H' t b nx (kp.inst nx ndx) sh fr⟩⟩
theorem k_share1 {C CB : Addr} {u : Int} {H : Hp} {Q : VK} {E : XK} (k : ∀ p H' t b, H p = none → Kp [] H H' → ShAt C H' p t b → Fr.Fr t b u 1 → Q (.ref p) H') : NewI C (spInit C CB) ([.int u] ++ [.int 1]) H Q E := by
  intro x dx nx ndx ne
  exact ⟨x, dx, u, 1, rfl, upd_same, by unfold Bt; decide +kernel, fun h => absurd h (by omega), fun _ H' t b kp sh fr => ⟨rfl, k x H' t b nx (kp.inst nx ndx) sh fr⟩⟩
theorem k_shareK {C CB : Addr} {u d : Int} {H : Hp} {Q : VK} {E : XK} (hd : 1 ≤ d) (hb : Bt 8500 d) (k : ∀ p H' t b, H p = none → Kp [] H H' → ShAt C H' p t b → Fr.Fr t b u d → Q (.ref p) H') : NewI C (spInit C CB) ([.int u] ++ [.int d]) H Q E := k_share hd hb k
theorem k_shareBad {C CB : Addr} {u d : Int} {H : Hp} {Q : VK} {E : XK} (hd : d < 1) (hb : Bt 8500 d) (k : ∀ H', Kp [] H H' → E (.ref CB) none H') : NewI C (spInit C CB) ([.int u] ++ [.int d]) H Q E := by
  intro x dx nx ndx ne
  exact ⟨x, dx, u, d, rfl, upd_same, hb, fun _ => k _ (Kp.inst nx ndx .refl), fun h => absurd h (by omega)⟩
def spAdd (C : Addr) (g : Int → Int → Int → Int → Int) : Sp := fun vs H Q _ => ∃ (p q : Addr) (t b t' b' : Int), vs = [.ref p, .ref q] ∧ ShAt C H p t b ∧ ShAt C H q t' b' ∧ 1 ≤ b ∧ 1 ≤ b' ∧ Bt 4000 t ∧ Bt 4000 b ∧ Bt 4000 t' ∧ Bt 4000 b' ∧
  ∀ r H' x y, H r = none → Kp [] H H' → ShAt C H' r x y → Fr.Fr x y (g t b t' b') (b * b') → Q (.ref r) H'
def gAdd (t b t' b' : Int) : Int := t * b' + t' * b
def gMul (t b t' b' : Int) : Int := t * t'
def gSub' (t b t' b' : Int) : Int := t * b' - t' * b
theorem k_own {C : Addr} {g : Int → Int → Int → Int → Int} {p q : Addr} {t b t' b' : Int} {H : Hp} {Q : VK} (h1 : ShAt C H p t b) (h2 : ShAt C H q t' b') (hb : 1 ≤ b) (hb' : 1 ≤ b') (s1 : Bt 4000 t) (s2 : Bt 4000 b) (s3 : Bt 4000 t') (s4 : Bt 4000 b')
    (k : ∀ r H' x y, H r = none → Kp [] H H' → ShAt C H' r x y → Fr.Fr x y (g t b t' b') (b * b') → Q (.ref r) H') : rOwn C (spAdd C g) E0 (.ref p) (.ref q) H Q := by
  obtain ⟨dx, e1⟩ := id h1
  obtain ⟨dy, e2⟩ := id h2
  exact ⟨p, q, dx, dy, _, _, rfl, rfl, e1, e2, p, q, t, b, t', b', rfl, h1, h2, hb, hb', s1, s2, s3, s4, k⟩
/-- == of a share with anything -/
def spEq (K : PySem.W.Frag) (C : Addr) : Sp := fun vs H Q _ => ∃ (p : Addr) (y : V) (t b : Int), vs = [.ref p, y] ∧ ShAt C H p t b ∧
  ((∃ q t' b', y = .ref q ∧ ShAt C H q t' b' ∧ Q (.bl (decide (t = t') && decide (b = b'))) H) ∨ (∃ T, TyX K H y (.type T) ∧ PySem.W.subIn K (.type T) (.ref C) = some false ∧ Q (.bl false) H))
section
variable {K : PySem.W.Frag} {mg : Str → Option Value} {C : Addr} {H : Hp} {Q : VK} {p q : Addr} {t b t' b' : Int}
theorem k_eq (S : ShC K mg C) (h1 : ShAt C H p t b) (h2 : ShAt C H q t' b') (k : Q (.bl (decide (t = t') && decide (b = b'))) H) : rEqOwn K C (spEq K C) E0 (.ref p) (.ref q) H Q := by
  obtain ⟨dx, e1⟩ := id h1
  exact ⟨p, dx, _, _, rfl, e1, ty_share S h2, notFirst_self, p, _, t, b, rfl, h1, .inl ⟨q, t', b', rfl, h2, k⟩⟩
theorem k_eqNo {y : V} {T : String} (h1 : ShAt C H p t b) (ty : TyX K H y (.type T)) (s : PySem.W.subIn K (.type T) (.ref C) = some false) (k : Q (.bl false) H) : rEqOwn K C (spEq K C) E0 (.ref p) y H Q := by
  obtain ⟨dx, e1⟩ := id h1
  exact ⟨p, dx, _, _, rfl, e1, ty, notFirst_of s, p, _, t, b, rfl, h1, .inr ⟨T, ty, s, k⟩⟩
end
/-- the def __init__ and how it is called -/
def NcSh (P : Program) (w : World) (K : PySem.W.Frag) (mg : Str → Option Value) (base : Heap) (k : Nat) (C CB : Addr) : Prop :=
  ∃ f fd, Mk K C f ∧ FnOk P w K mg base (L2.CX P w) k f fd ["self", "top", "bottom"] (spInit C CB) ∧ mg "Share" = some (.ref C) ∧ Binds K fd ["self", "top", "bottom"] [] ∧ (∃ ds, Vals [V.int 1] ds ∧ Binds K fd ["self", "top", "bottom"] ds) ∧
    ∃ its : List Value, KBn K fd ["self", "top", "bottom"] 2 ["bottom"] (fun us ws => us ++ ws) (fun vs zs => vs ++ zs)
section
variable {X : Cx} {k : Nat} {C CB : Addr} {p pos : Pos} {e : Expr} {es : List Expr} {t tk : TA} {E : L2.St → XK} {kws : List Keyword}
theorem pe_sh (F : NcSh X.prog X.w X.K X.mg X.base k C CB) (pass : ∀ σ, PassesAt (L2.CX X.prog X.w) X σ (E σ)) (room : Room (k + 1) X.A)
    (ha : PA X (e :: es) t) (hg : Gl X "Share" := by rfl)
    (he : starEach (e :: es) X.env = (false, eval e X.env) :: starEach es X.env := by rfl) (hpl : (backTo pos (starEach es X.env)).any (·.1) = false := by rfl) :
    PE X (.Call (.Name "Share" p) (e :: es) [] pos) (tNew C (spInit C CB) [] E t) := by
  obtain ⟨f, fd, mk, ok, g, b, _, _⟩ := F
  exact pe_new mk ok pass room g b .nil ha hg (by decide) he hpl
theorem pe_sh1 (F : NcSh X.prog X.w X.K X.mg X.base k C CB) (pass : ∀ σ, PassesAt (L2.CX X.prog X.w) X σ (E σ)) (room : Room (k + 1) X.A)
    (ha : PA X (e :: es) t) (hg : Gl X "Share" := by rfl)
    (he : starEach (e :: es) X.env = (false, eval e X.env) :: starEach es X.env := by rfl) (hpl : (backTo pos (starEach es X.env)).any (·.1) = false := by rfl) :
    PE X (.Call (.Name "Share" p) (e :: es) [] pos) (tNew C (spInit C CB) [.int 1] E t) := by
  obtain ⟨f, fd, mk, ok, g, _, ⟨ds, v, b⟩, _⟩ := F
  exact pe_new mk ok pass room g b v ha hg (by decide) he hpl
theorem pe_shK (F : NcSh X.prog X.w X.K X.mg X.base k C CB) (pass : ∀ σ, PassesAt (L2.CX X.prog X.w) X σ (E σ)) (room : Room (k + 1) X.A)
    (ha : PA X (e :: es) t) (hkw : PK X kws tk) (hg : Gl X "Share" := by rfl) (hall : (backToKw pos (keywordEach kws X.env)).all (·.1.isSome) = true := by rfl) (hks : (backToKw pos (keywordEach kws X.env)).filterMap (·.1) = (["bottom"] : List Str) := by rfl)
    (he : starEach (e :: es) X.env = (false, eval e X.env) :: starEach es X.env := by rfl)
    (hpl : ((backTo pos (starEach (e :: es) X.env)).any (·.1) || (backToKw pos (keywordEach kws X.env)).any (·.1.isNone)) = false := by rfl) :
    PE X (.Call (.Name "Share" p) (e :: es) kws pos) (tNewK C 1 1 (spInit C CB) (fun vs zs => vs ++ zs) E t tk) := by
  obtain ⟨f, fd, mk, ok, g, _, _, its, b⟩ := F
  exact pe_newK mk ok pass room g b ha hkw hg hall hks (by decide) he hpl (fun _ _ _ => rfl)
end

theorem k_shareBad2 {C CB : Addr} {u d : Int} {H : Hp} {Q : VK} {E : XK} (hd : d < 1) (hb : Bt 8500 d) (k : ∀ H', Kp [] H H' → E (.ref CB) none H') : NewI C (spInit C CB) ([.int u, .int d] ++ []) H Q E := k_shareBad hd hb k

theorem k_opA {C : Addr} {n m : Nat} {p q : Addr} {t b t' b' : Int} {H : Hp} {Q : VK} (h1 : ShAt C H p t b) (h2 : ShAt C H q t' b') (hb : 1 ≤ b) (hb' : 1 ≤ b') (s1 : Bt n t) (s2 : Bt n b) (s3 : Bt m t') (s4 : Bt m b') (ln : n ≤ 4000) (lm : m ≤ 4000)
    (k : ∀ r H' x y, H r = none → Kp [] H H' → ShAt C H' r x y → Fr.Fr x y (t * b' + t' * b) (b * b') → 1 ≤ y → Bt (n + m + 1) x → Bt (n + m + 1) y → Q (.ref r) H') : rOwn C (spAdd C gAdd) E0 (.ref p) (.ref q) H Q := by
  refine k_own h1 h2 hb hb' (s1.mono ln) (s2.mono ln) (s3.mono lm) (s4.mono lm) fun r H' x y hn hk sh fr => ?_
  have hd : 1 ≤ b * b' := Int.mul_pos hb hb'
  have w1 : Bt (n + m + 1) (t * b' + t' * b) := (s1.mul s4).add (Nat.add_comm m n ▸ s3.mul s2)
  have w2 : Bt (n + m + 1) (b * b') := (s2.mul s4).mono (Nat.le_succ _)
  exact k r H' x y hn hk sh fr fr.1 (w1.le (fr.absle hd)) (w2.le (by have := fr.le hd; have := fr.1; omega))
theorem k_opS {C : Addr} {n m : Nat} {p q : Addr} {t b t' b' : Int} {H : Hp} {Q : VK} (h1 : ShAt C H p t b) (h2 : ShAt C H q t' b') (hb : 1 ≤ b) (hb' : 1 ≤ b') (s1 : Bt n t) (s2 : Bt n b) (s3 : Bt m t') (s4 : Bt m b') (ln : n ≤ 4000) (lm : m ≤ 4000)
    (k : ∀ r H' x y, H r = none → Kp [] H H' → ShAt C H' r x y → Fr.Fr x y (t * b' - t' * b) (b * b') → 1 ≤ y → Bt (n + m + 1) x → Bt (n + m + 1) y → Q (.ref r) H') : rOwn C (spAdd C gSub') E0 (.ref p) (.ref q) H Q := by
  refine k_own h1 h2 hb hb' (s1.mono ln) (s2.mono ln) (s3.mono lm) (s4.mono lm) fun r H' x y hn hk sh fr => ?_
  have hd : 1 ≤ b * b' := Int.mul_pos hb hb'
  have w1 : Bt (n + m + 1) (t * b' - t' * b) := (s1.mul s4).sub (Nat.add_comm m n ▸ s3.mul s2)
  have w2 : Bt (n + m + 1) (b * b') := (s2.mul s4).mono (Nat.le_succ _)
  exact k r H' x y hn hk sh fr fr.1 (w1.le (fr.absle hd)) (w2.le (by have := fr.le hd; have := fr.1; omega))
local macro_rules | `(tactic| tm_at "b1") => `(tactic| first | with_reducible assumption | omega)
local macro_rules | `(tactic| tm_at "step") => `(tactic| first | (with_reducible refine' k_opA ?k1 ?k2 ?k3 ?k4 ?k5 ?k6 ?k7 ?k8 ?k9 ?k10 ?_; (case k1 => tm_at "sh"); (case k2 => tm_at "sh"); (case k3 => tm_at "b1"); (case k4 => tm_at "b1"); (case k5 => with_reducible assumption); (case k6 => with_reducible assumption); (case k7 => with_reducible assumption); (case k8 => with_reducible assumption); (case k9 => k_dflt decide); (case k10 => k_dflt decide); intro r_ H_ x_ y_ hn_ hk_ hs_ hf_ hy_ hbx_ hby_) | fail)
local macro_rules | `(tactic| tm_at "step") => `(tactic| first | (with_reducible refine' k_opS ?k1 ?k2 ?k3 ?k4 ?k5 ?k6 ?k7 ?k8 ?k9 ?k10 ?_; (case k1 => tm_at "sh"); (case k2 => tm_at "sh"); (case k3 => tm_at "b1"); (case k4 => tm_at "b1"); (case k5 => with_reducible assumption); (case k6 => with_reducible assumption); (case k7 => with_reducible assumption); (case k8 => with_reducible assumption); (case k9 => k_dflt decide); (case k10 => k_dflt decide); intro r_ H_ x_ y_ hn_ hk_ hs_ hf_ hy_ hbx_ hby_) | fail)

theorem shF_no (t b : Int) {m : Str} (h1 : (m == "top") = false) (h2 : (m == "bottom") = false) : (shF t b).lookup m = none := (lk_miss h1).trans ((lk_miss h2).trans rfl)
theorem meth_sh {C : Addr} {H : Hp} {p : Addr} {t b : Int} {m : Str} {R : Prop} (h : ShAt C H p t b) (h1 : (m == "top") = false) (h2 : (m == "bottom") = false) (q : R) : MethQ C m (.ref p) H R := by
  obtain ⟨dx, e⟩ := h
  exact ⟨p, dx, _, rfl, e, shF_no t b h1 h2, q⟩
theorem k_opM {C : Addr} {n m : Nat} {p q : Addr} {t b t' b' : Int} {H : Hp} {Q : VK} (h1 : ShAt C H p t b) (h2 : ShAt C H q t' b') (hb : 1 ≤ b) (hb' : 1 ≤ b') (s1 : Bt n t) (s2 : Bt n b) (s3 : Bt m t') (s4 : Bt m b') (ln : n ≤ 4000) (lm : m ≤ 4000)
    (k : ∀ r H' x y, H r = none → Kp [] H H' → ShAt C H' r x y → Fr.Fr x y (t * t') (b * b') → 1 ≤ y → Bt (n + m + 1) x → Bt (n + m + 1) y → Q (.ref r) H') : rOwn C (spAdd C gMul) E0 (.ref p) (.ref q) H Q := by
  refine k_own h1 h2 hb hb' (s1.mono ln) (s2.mono ln) (s3.mono lm) (s4.mono lm) fun r H' x y hn hk sh fr => ?_
  have hd : 1 ≤ b * b' := Int.mul_pos hb hb'
  have w1 : Bt (n + m + 1) (t * t') := (s1.mul s3).mono (Nat.le_succ _)
  have w2 : Bt (n + m + 1) (b * b') := (s2.mul s4).mono (Nat.le_succ _)
  exact k r H' x y hn hk sh fr fr.1 (w1.le (fr.absle hd)) (w2.le (by have := fr.le hd; have := fr.1; omega))
local macro_rules | `(tactic| tm_at "step") => `(tactic| first | (with_reducible refine' k_opM ?k1 ?k2 ?k3 ?k4 ?k5 ?k6 ?k7 ?k8 ?k9 ?k10 ?_; (case k1 => tm_at "sh"); (case k2 => tm_at "sh"); (case k3 => tm_at "b1"); (case k4 => tm_at "b1"); (case k5 => with_reducible assumption); (case k6 => with_reducible assumption); (case k7 => with_reducible assumption); (case k8 => with_reducible assumption); (case k9 => k_dflt decide); (case k10 => k_dflt decide); intro r_ H_ x_ y_ hn_ hk_ hs_ hf_ hy_ hbx_ hby_) | fail)

def top (i : Nat) : Stmt := PySem.Challenge.pw_oddskept_k01_shares_product.main.body.getD i (.Pass ⟨0, 0, 0, 0⟩)
abbrev s_l_int : Stmt := top 19
theorem sc_l_int : FnScope ["x"] ["x"] (defScope s_l_int) := ⟨rfl, rfl, rfl, by decide +kernel, rfl, by decide +kernel, by decide +kernel⟩
abbrev s_l_pool : Stmt := top 20
theorem sc_l_pool : FnScope ["script", "at", "cell", "kind"] ["script", "at"] (defScope s_l_pool) := ⟨rfl, rfl, rfl, by decide +kernel, rfl, by decide +kernel, by decide +kernel⟩
abbrev s_l_stirred : Stmt := top 21
theorem sc_l_stirred : FnScope ["script", "at", "pool", "cell"] ["script", "at"] (defScope s_l_stirred) := ⟨rfl, rfl, rfl, by decide +kernel, rfl, by decide +kernel, by decide +kernel⟩
abbrev s_l_draw : Stmt := top 22
theorem sc_l_draw : FnScope ["pool", "many", "got", "x"] ["pool", "many"] (defScope s_l_draw) := ⟨rfl, rfl, rfl, by decide +kernel, rfl, by decide +kernel, by decide +kernel⟩
abbrev s_l_size : Stmt := top 23
theorem sc_l_size : FnScope ["pool", "kind", "total", "k"] ["pool"] (defScope s_l_size) := ⟨rfl, rfl, rfl, by decide +kernel, rfl, by decide +kernel, by decide +kernel⟩
abbrev s_l_fraction : Stmt := top 24
theorem sc_l_fraction : FnScope ["pool", "up", "down", "k"] ["pool"] (defScope s_l_fraction) := ⟨rfl, rfl, rfl, by decide +kernel, rfl, by decide +kernel, by decide +kernel⟩
abbrev s_l_second : Stmt := top 25
theorem sc_l_second : FnScope ["pool", "first", "free", "up", "down", "way"] ["pool", "first", "free"] (defScope s_l_second) := ⟨rfl, rfl, rfl, by decide +kernel, rfl, by decide +kernel, by decide +kernel⟩
abbrev s_l_answers : Stmt := top 29
theorem sc_l_answers : FnScope ["told", "due"] ["told", "due"] (defScope s_l_answers) := ⟨rfl, rfl, rfl, by decide +kernel, rfl, by decide +kernel, by decide +kernel⟩
abbrev s_law : Stmt := top 37
theorem sc_law : FnScope ["script", "first", "pool", "second", "low", "exponent", "row", "plus", "one", "two", "lows", "bare", "up", "down"] ["script"] (defScope s_law) := ⟨rfl, rfl, rfl, by decide +kernel, rfl, by decide +kernel, by decide +kernel⟩
abbrev s_mean : Stmt := top 15
theorem sc_mean : FnScope ["shares", "total", "share"] ["shares"] (defScope s_mean) := ⟨rfl, rfl, rfl, by decide +kernel, rfl, by decide +kernel, by decide +kernel⟩
abbrev s_greatest : Stmt := top 16
theorem sc_greatest : FnScope ["shares", "best", "share"] ["shares"] (defScope s_greatest) := ⟨rfl, rfl, rfl, by decide +kernel, rfl, by decide +kernel, by decide +kernel⟩
abbrev s_power : Stmt := top 17
theorem sc_power : FnScope ["share", "exponent", "product", "_"] ["share", "exponent"] (defScope s_power) := ⟨rfl, rfl, rfl, by decide +kernel, rfl, by decide +kernel, by decide +kernel⟩
abbrev s_l_row : Stmt := top 26
theorem sc_l_row : FnScope ["pool", "row", "k", "thing"] ["pool"] (defScope s_l_row) := ⟨rfl, rfl, rfl, by decide +kernel, rfl, by decide +kernel, by decide +kernel⟩
abbrev s_l_low : Stmt := top 27
theorem sc_l_low : FnScope ["up", "down", "x", "y"] ["up", "down"] (defScope s_l_low) := ⟨rfl, rfl, rfl, by decide +kernel, rfl, by decide +kernel, by decide +kernel⟩
abbrev s_l_fields : Stmt := top 28
theorem sc_l_fields : FnScope ["told", "due"] ["told", "due"] (defScope s_l_fields) := ⟨rfl, rfl, rfl, by decide +kernel, rfl, by decide +kernel, by decide +kernel⟩
abbrev s_l_no_mean : Stmt := top 30
theorem sc_l_no_mean : FnScope ["as_tuple", "good", "e"] ["as_tuple"] (defScope s_l_no_mean) := ⟨rfl, rfl, rfl, by decide +kernel, rfl, by decide +kernel, by decide +kernel⟩
abbrev s_l_mean_holds : Stmt := top 31
theorem sc_l_mean_holds : FnScope ["row", "lows", "top", "low", "up", "down", "due", "given"] ["row", "lows"] (defScope s_l_mean_holds) := ⟨rfl, rfl, rfl, by decide +kernel, rfl, by decide +kernel, by decide +kernel⟩
abbrev s_l_kept : Stmt := top 32
theorem sc_l_kept : FnScope ["given", "lows", "k"] ["given", "lows"] (defScope s_l_kept) := ⟨rfl, rfl, rfl, by decide +kernel, rfl, by decide +kernel, by decide +kernel⟩
abbrev s_l_greatest_holds : Stmt := top 33
theorem sc_l_greatest_holds : FnScope ["row", "lows", "best", "up", "down", "given", "told", "again", "k"] ["row", "lows"] (defScope s_l_greatest_holds) := ⟨rfl, rfl, rfl, by decide +kernel, rfl, by decide +kernel, by decide +kernel⟩
abbrev s_l_power_due : Stmt := top 34
theorem sc_l_power_due : FnScope ["low", "exponent", "top", "under", "k"] ["low", "exponent"] (defScope s_l_power_due) := ⟨rfl, rfl, rfl, by decide +kernel, rfl, by decide +kernel, by decide +kernel⟩
abbrev s_l_products : Stmt := top 35
theorem sc_l_products : FnScope ["one", "two", "first", "second", "up", "down", "more", "under", "due"] ["one", "two", "first", "second"] (defScope s_l_products) := ⟨rfl, rfl, rfl, by decide +kernel, rfl, by decide +kernel, by decide +kernel⟩
abbrev s_l_compares : Stmt := top 36
theorem sc_l_compares : FnScope ["one", "two", "first", "second", "up", "down", "more", "under"] ["one", "two", "first", "second"] (defScope s_l_compares) := ⟨rfl, rfl, rfl, by decide +kernel, rfl, by decide +kernel, by decide +kernel⟩
abbrev s_Share___init__ : Stmt := inClass (top 14) 0
theorem sc_Share___init__ : FnScope ["self", "top", "bottom", "divisor"] ["self", "top", "bottom"] (defScope s_Share___init__) := ⟨rfl, rfl, rfl, by decide +kernel, rfl, by decide +kernel, by decide +kernel⟩
abbrev s_Share___add__ : Stmt := inClass (top 14) 1
theorem sc_Share___add__ : FnScope ["self", "other", "top"] ["self", "other"] (defScope s_Share___add__) := ⟨rfl, rfl, rfl, by decide +kernel, rfl, by decide +kernel, by decide +kernel⟩
abbrev s_Share___mul__ : Stmt := inClass (top 14) 3
theorem sc_Share___mul__ : FnScope ["self", "other"] ["self", "other"] (defScope s_Share___mul__) := ⟨rfl, rfl, rfl, by decide +kernel, rfl, by decide +kernel, by decide +kernel⟩
abbrev s_Share_at_most : Stmt := inClass (top 14) 6
theorem sc_Share_at_most : FnScope ["self", "other"] ["self", "other"] (defScope s_Share_at_most) := ⟨rfl, rfl, rfl, by decide +kernel, rfl, by decide +kernel, by decide +kernel⟩
structure Txt (K : PySem.W.Frag) (mg : Str → Option Value) (CShare COddsError CBadShare CBadText CBadBook CBadMove CBadProgram CBadPlan CUnfit CTooLarge CBadEdit : Addr) : Prop where
  d_l_int : Df K mg "_law_int" s_l_int
  d_l_pool : Df K mg "_law_pool" s_l_pool
  d_l_stirred : Df K mg "_law_stirred" s_l_stirred
  d_l_draw : Df K mg "_law_draw" s_l_draw
  d_l_size : Df K mg "_law_size" s_l_size
  d_l_fraction : Df K mg "_law_fraction" s_l_fraction
  d_l_second : Df K mg "_law_second" s_l_second
  d_l_answers : Df K mg "_law_answers" s_l_answers
  d_law : Df K mg "law" s_law
  d_mean : Df K mg "mean" s_mean
  d_greatest : Df K mg "greatest" s_greatest
  d_power : Df K mg "power" s_power
  d_l_row : Df K mg "_law_row" s_l_row
  d_l_low : Df K mg "_law_low" s_l_low
  d_l_fields : Df K mg "_law_fields" s_l_fields
  d_l_no_mean : Df K mg "_law_no_mean" s_l_no_mean
  d_l_mean_holds : Df K mg "_law_mean_holds" s_l_mean_holds
  d_l_kept : Df K mg "_law_kept" s_l_kept
  d_l_greatest_holds : Df K mg "_law_greatest_holds" s_l_greatest_holds
  d_l_power_due : Df K mg "_law_power_due" s_l_power_due
  d_l_products : Df K mg "_law_products" s_l_products
  d_l_compares : Df K mg "_law_compares" s_l_compares
  n_isinstance : mg "isinstance" = none
  n_int : mg "int" = none
  n_bool : mg "bool" = none
  n_len : mg "len" = none
  n_abs : mg "abs" = none
  n_max : mg "max" = none
  n_range : mg "range" = none
  n_ValueError : mg "ValueError" = none
  n_tuple : mg "tuple" = none
  sh : ShC K mg CShare
  g_gcd : mg "gcd" = some (.builtin "math.gcd")
  x_BadShare : PySem.W.excIn K CBadShare [.type "ValueError", .type "Exception", .type "BaseException", .type "object"] "ValueError.__new__" = true
  d_init : ∃ f fd, Mk K CShare f ∧ FunD K "__init__" "Share.__init__" (defArgs s_Share___init__) (defBody s_Share___init__) (defScope s_Share___init__) [.int 1] [] f fd
  d_Share___add__ : Dm K CShare "__add__" "Share.__add__" s_Share___add__
  d_Share___mul__ : Dm K CShare "__mul__" "Share.__mul__" s_Share___mul__
  d_Share_at_most : Dm K CShare "at_most" "Share.at_most" s_Share_at_most
  e_OddsError : ErrC K mg "OddsError" COddsError
  e_BadShare : ErrC K mg "BadShare" CBadShare
  e_BadText : ErrC K mg "BadText" CBadText
  e_BadBook : ErrC K mg "BadBook" CBadBook
  e_BadMove : ErrC K mg "BadMove" CBadMove
  e_BadProgram : ErrC K mg "BadProgram" CBadProgram
  e_BadPlan : ErrC K mg "BadPlan" CBadPlan
  e_Unfit : ErrC K mg "Unfit" CUnfit
  e_TooLarge : ErrC K mg "TooLarge" CTooLarge
  e_BadEdit : ErrC K mg "BadEdit" CBadEdit
  up : PySem.W.subIn K (.ref CBadShare) (.ref COddsError) = some true
  upV : PySem.W.subIn K (.ref CBadShare) (.type "ValueError") = some true
  no_BadText : PySem.W.subIn K (.ref CBadShare) (.ref CBadText) = some false ∧ CBadShare ≠ CBadText
  no_BadBook : PySem.W.subIn K (.ref CBadShare) (.ref CBadBook) = some false ∧ CBadShare ≠ CBadBook
  no_BadMove : PySem.W.subIn K (.ref CBadShare) (.ref CBadMove) = some false ∧ CBadShare ≠ CBadMove
  no_BadProgram : PySem.W.subIn K (.ref CBadShare) (.ref CBadProgram) = some false ∧ CBadShare ≠ CBadProgram
  no_BadPlan : PySem.W.subIn K (.ref CBadShare) (.ref CBadPlan) = some false ∧ CBadShare ≠ CBadPlan
  no_Unfit : PySem.W.subIn K (.ref CBadShare) (.ref CUnfit) = some false ∧ CBadShare ≠ CUnfit
  no_TooLarge : PySem.W.subIn K (.ref CBadShare) (.ref CTooLarge) = some false ∧ CBadShare ≠ CTooLarge
  no_BadEdit : PySem.W.subIn K (.ref CBadShare) (.ref CBadEdit) = some false ∧ CBadShare ≠ CBadEdit
/-! ## what the draws are worth -/
def spPool (K : PySem.W.Frag) : Sp := fun vs H Q _ => ∃ (a : Addr) (ns : List Int) (i : Int), vs = [.ref a, .int i] ∧ Scr K H a ns ∧ 0 ≤ i ∧ ∀ p H', H p = none → Kp [] H H' → Pool H' p → Q (.ref p) H'
def spDraw : Sp := fun vs H Q _ => ∃ (a : Addr) (m : Int), vs = [.ref a, .int m] ∧ Pool H a ∧ m ≤ 10000000000000000000000000000000000000000000000000000000000000000000000 ∧ ∀ r H', 0 ≤ r → (r < m ∨ r = 0) → Kp [a] H H' → Pool H' a → Q (.int r) H'
def spInt : Sp := fun vs H Q _ => ∃ (i : Int), vs = [.int i] ∧ Q (.bl true) H
section
variable {H : Hp} {Q : VK} {E : XK} {K : PySem.W.Frag}
theorem k_pool {a : Addr} {ns : List Int} {i : Int} (hs : Scr K H a ns) (h0 : 0 ≤ i) (k : ∀ p H', H p = none → Kp [] H H' → Pool H' p → Q (.ref p) H') : spPool K ([.ref a, .int i] ++ []) H Q E := ⟨a, ns, i, rfl, hs, h0, k⟩
theorem k_draw {a : Addr} {m : Int} (hp : Pool H a) (hm : m ≤ 10000000000000000000000000000000000000000000000000000000000000000000000) (k : ∀ r H', 0 ≤ r → (r < m ∨ r = 0) → Kp [a] H H' → Pool H' a → Q (.int r) H') : spDraw ([.ref a, .int m] ++ []) H Q E := ⟨a, m, rfl, hp, hm, k⟩
theorem k_int {i : Int} (q : Q (.bl true) H) : spInt ([.int i] ++ []) H Q E := ⟨i, rfl, q⟩
end
local macro_rules | `(tactic| tm_at "step") => `(tactic| first | (with_reducible refine' k_draw ?k1 ?k2 ?_; (case k1 => tm_at "lp"); (case k2 => k_dflt omega); intro r_ H_ h0_ h1_ hk_ hp_) | fail)
local macro_rules | `(tactic| tm_at "step") => `(tactic| first | with_reducible refine k_int ?_ | fail)
local macro_rules | `(tactic| tm_at "step") => `(tactic| first | (with_reducible refine' k_pool ?k1 ?k2 ?_; (case k1 => tm_at "ls"); (case k2 => k_dflt (tm_at "side")); intro p_ H_ hn_ hk_ hp_) | fail)

/-! ## fractions drawn -/
structure FrT (H : Hp) (p : Addr) (u d : Int) : Prop where
  e : H p = some (.tup [.int u, .int d])
  d1 : 1 ≤ d
  bu : Bt 200 u
  bd : Bt 200 d
theorem FrT.kp0 {H H' : Hp} {p : Addr} {u d : Int} (k : Kp [] H H') (h : FrT H p u d) : FrT H' p u d := ⟨k.get0 h.e, h.d1, h.bu, h.bd⟩
theorem FrT.kp1 {H H' : Hp} {p q : Addr} {u d : Int} (k : Kp [q] H H') (n : p ≠ q) (h : FrT H p u d) : FrT H' p u d := ⟨k.get1 n h.e, h.d1, h.bu, h.bd⟩
theorem FrT.ne {H : Hp} {p a : Addr} {u d : Int} (h : FrT H p u d) (hp : Pool H a) : p ≠ a := by
  obtain ⟨c, x, n, k, e⟩ := hp
  exact ne_of h.e e (by intro z; cases z)
def spSize : Sp := fun vs H Q _ => ∃ (a : Addr), vs = [.ref a] ∧ Pool H a ∧ ∀ r H', 0 ≤ r → r < 1000000000000000000000000000000000000000000000000000000000000 → Kp [a] H H' → Pool H' a → Q (.int r) H'
def spFrac : Sp := fun vs H Q _ => ∃ (a : Addr), vs = [.ref a] ∧ Pool H a ∧ ∀ p u d H', Kp [a] H H' → Pool H' a → FrT H' p u d → Q (.ref p) H'
def spSecond : Sp := fun vs H Q _ => ∃ (a f g : Addr) (u d u' d' : Int), vs = [.ref a, .ref f, .ref g] ∧ Pool H a ∧ FrT H f u d ∧ FrT H g u' d' ∧ ∀ p u d H', Kp [a] H H' → Pool H' a → FrT H' p u d → Q (.ref p) H'
section
variable {H : Hp} {Q : VK} {E : XK}
theorem k_size {a : Addr} (hp : Pool H a) (k : ∀ r H', 0 ≤ r → r < 1000000000000000000000000000000000000000000000000000000000000 → Kp [a] H H' → Pool H' a → Q (.int r) H') : spSize ([.ref a] ++ []) H Q E := ⟨a, rfl, hp, k⟩
theorem k_frac {a : Addr} (hp : Pool H a) (k : ∀ p u d H', Kp [a] H H' → Pool H' a → FrT H' p u d → Q (.ref p) H') : spFrac ([.ref a] ++ []) H Q E := ⟨a, rfl, hp, k⟩
theorem k_second {a f g : Addr} {u d u' d' : Int} (hp : Pool H a) (h1 : FrT H f u d) (h2 : FrT H g u' d') (k : ∀ p u d H', Kp [a] H H' → Pool H' a → FrT H' p u d → Q (.ref p) H') : spSecond ([.ref a, .ref f, .ref g] ++ []) H Q E := ⟨a, f, g, u, d, u', d', rfl, hp, h1, h2, k⟩
end
local macro_rules | `(tactic| tm_at "step") => `(tactic| first | (with_reducible refine' k_size ?k1 ?_; (case k1 => tm_at "lp"); intro r_ H_ h0_ h1_ hk_ hp_) | fail)
local macro_rules | `(tactic| tm_at "step") => `(tactic| first | (with_reducible refine' k_frac ?k1 ?_; (case k1 => tm_at "lp"); intro p_ u_ d_ H_ hk_ hp_ hf_) | fail)
local macro_rules | `(tactic| tm_at "ft") => `(tactic| first | with_reducible assumption | (with_reducible refine' FrT.kp0 ?k1 ?k2; (case k1 => with_reducible assumption); (case k2 => tm_at "ft")) | (with_reducible refine' FrT.kp1 ?k1 ?k3 ?k2; (case k1 => with_reducible assumption); (case k3 => tm_at "ne"); (case k2 => tm_at "ft")) | fail)
local macro_rules | `(tactic| tm_at "lk") => `(tactic| first | (with_reducible refine' FrT.e ?k1; (case k1 => tm_at "ft")) | fail)
local macro_rules | `(tactic| tm_at "ne") => `(tactic| first | (with_reducible refine' FrT.ne ?k1 ?k2; (case k1 => with_reducible assumption); (case k2 => tm_at "lp")) | fail)
local macro_rules | `(tactic| tm_at "step") => `(tactic| first | (with_reducible refine' k_second ?k1 ?k2 ?k3 ?_; (case k1 => tm_at "lp"); (case k2 => tm_at "ft"); (case k3 => tm_at "ft"); intro p_ u_ d_ H_ hk_ hp_ hf_) | fail)

/-! ## rows of fractions, rows of shares -/
theorem paired_get {α β : Type} {R : α → β → Prop} : ∀ {xs : List α} {ys : List β} {i : Nat} {x : α}, Paired R xs ys → xs[i]? = some x → ∃ y, ys[i]? = some y ∧ R x y
  | _, _, _, _, .nil, h => by simp at h
  | _, _, 0, x, .cons r _, h => ⟨_, rfl, by simp at h; subst h; exact r⟩
  | _, _, i + 1, x, .cons _ t, h => by
    obtain ⟨y, h1, h2⟩ := paired_get (i := i) (x := x) t (by simpa using h)
    exact ⟨y, by simpa using h1, h2⟩
theorem paired_get' {α β : Type} {R : α → β → Prop} : ∀ {xs : List α} {ys : List β} {i : Nat} {y : β}, Paired R xs ys → ys[i]? = some y → ∃ x, xs[i]? = some x ∧ R x y
  | _, _, _, _, .nil, h => by simp at h
  | _, _, 0, y, .cons r _, h => ⟨_, rfl, by simp at h; subst h; exact r⟩
  | _, _, i + 1, y, .cons _ t, h => by
    obtain ⟨x, h1, h2⟩ := paired_get' (i := i) (y := y) t (by simpa using h)
    exact ⟨x, by simpa using h1, h2⟩
theorem paired_more {α β : Type} {R : α → β → Prop} : ∀ {xs : List α} {ys : List β} {x : α} {y : β}, Paired R xs ys → R x y → Paired R (xs ++ [x]) (ys ++ [y])
  | _, _, _, _, .nil, h => .cons h .nil
  | _, _, _, _, .cons r t, h => .cons r (paired_more t h)
theorem paired_map {α β : Type} {R S : α → β → Prop} : ∀ {xs : List α} {ys : List β}, Paired R xs ys → (∀ x y, R x y → S x y) → Paired S xs ys
  | _, _, .nil, _ => .nil
  | _, _, .cons r t, f => .cons (f _ _ r) (paired_map t f)
theorem FrT.kpL {H H' : Hp} {p q : Addr} {u d : Int} {xs : List V} (k : Kp [q] H H') (hq : H q = some (.lst xs)) (h : FrT H p u d) : FrT H' p u d := h.kp1 k (ne_of h.e hq (by intro z; cases z))
def OkF (f : Int × Int) : Prop := 1 ≤ f.2 ∧ Bt 200 f.1 ∧ Bt 200 f.2
def FrV (H : Hp) (v : V) (f : Int × Int) : Prop := ∃ p, v = .ref p ∧ FrT H p f.1 f.2
def FrRow (H : Hp) (vs : List V) (fs : List (Int × Int)) : Prop := Paired (FrV H) vs fs
theorem FrRow.kp0 {H H' : Hp} {vs : List V} {fs : List (Int × Int)} (k : Kp [] H H') (h : FrRow H vs fs) : FrRow H' vs fs := paired_map h fun _ _ ⟨p, e, f⟩ => ⟨p, e, f.kp0 k⟩
theorem FrRow.kpL {H H' : Hp} {q : Addr} {xs vs : List V} {fs : List (Int × Int)} (k : Kp [q] H H') (hq : H q = some (.lst xs)) (h : FrRow H vs fs) : FrRow H' vs fs := paired_map h fun _ _ ⟨p, e, f⟩ => ⟨p, e, f.kpL k hq⟩
theorem FrRow.kpP {H H' : Hp} {q : Addr} {vs : List V} {fs : List (Int × Int)} (k : Kp [q] H H') (hq : Pool H q) (h : FrRow H vs fs) : FrRow H' vs fs := by
  obtain ⟨_, _, _, _, e⟩ := hq
  exact h.kpL k e
theorem FrRow.ok {H : Hp} {vs : List V} {fs : List (Int × Int)} (h : FrRow H vs fs) : ∀ f ∈ fs, OkF f := by
  intro f hf
  obtain ⟨i, hi, e⟩ := List.mem_iff_getElem.mp hf
  obtain ⟨v, _, p, _, q⟩ := paired_get' h (show fs[i]? = some f by rw [List.getElem?_eq_getElem hi, e])
  exact ⟨q.d1, q.bu, q.bd⟩
theorem ShAt.kpL {C : Addr} {H H' : Hp} {p q : Addr} {t b : Int} {xs : List V} (k : Kp [q] H H') (hq : H q = some (.lst xs)) (h : ShAt C H p t b) : ShAt C H' p t b := by
  obtain ⟨dx, e⟩ := id h
  exact h.kp1 k (ne_of e hq (by intro z; cases z))
def ShV (C : Addr) (H : Hp) (v : V) (f : Int × Int) : Prop := ∃ p t b, v = .ref p ∧ ShAt C H p t b ∧ Fr.Fr t b f.1 f.2
def ShRow (C : Addr) (H : Hp) (vs : List V) (fs : List (Int × Int)) : Prop := Paired (ShV C H) vs fs
theorem ShRow.kp0 {C : Addr} {H H' : Hp} {vs : List V} {fs : List (Int × Int)} (k : Kp [] H H') (h : ShRow C H vs fs) : ShRow C H' vs fs := paired_map h fun _ _ ⟨p, t, b, e, s, f⟩ => ⟨p, t, b, e, s.kp0 k, f⟩
theorem ShRow.kpL {C : Addr} {H H' : Hp} {q : Addr} {xs vs : List V} {fs : List (Int × Int)} (k : Kp [q] H H') (hq : H q = some (.lst xs)) (h : ShRow C H vs fs) : ShRow C H' vs fs := paired_map h fun _ _ ⟨p, t, b, e, s, f⟩ => ⟨p, t, b, e, s.kpL k hq, f⟩
theorem sum_bt {l : List (Int × Int)} (h : ∀ f ∈ l, OkF f) : ∀ i, i ≤ l.length → Bt (201 * i + 1) (Fr.sumRow (l.take i)).1 ∧ Bt (201 * i + 1) (Fr.sumRow (l.take i)).2 ∧ 1 ≤ (Fr.sumRow (l.take i)).2
  | 0, _ => ⟨by unfold Bt; show (0 : Int).natAbs < 2 ^ 1; decide, by unfold Bt; show (1 : Int).natAbs < 2 ^ 1; decide, by show (1 : Int) ≤ 1; omega⟩
  | i + 1, hi => by
    obtain ⟨a, b, c⟩ := sum_bt h i (by omega)
    have hl : i < l.length := by omega
    rw [Fr.sum_more (List.getElem?_eq_getElem hl)]
    obtain ⟨o1, o2, o3⟩ := h l[i] (List.getElem_mem hl)
    refine ⟨?_, ?_, Int.mul_pos c o1⟩
    · have q := (a.mul o3).add (Nat.add_comm 200 (201 * i + 1) ▸ o2.mul b)
      exact q.mono (by omega)
    · exact (b.mul o3).mono (by omega)
theorem best_ok {l : List (Int × Int)} (h : ∀ f ∈ l, OkF f) : OkF (Fr.bestRow l) := by
  unfold Fr.bestRow
  rcases Fr.best_mem l (0, 1) with e | e
  · rw [e]
    exact ⟨by show (1 : Int) ≤ 1; omega, by unfold Bt; exact Nat.pow_pos (by decide), (show Bt 1 1 by unfold Bt; decide).mono (by decide)⟩
  · exact h _ e
theorem bt_pow {n : Nat} {t : Int} (h : Bt n t) : ∀ i : Nat, Bt (n * i + 1) (t ^ i)
  | 0 => by unfold Bt; simp
  | i + 1 => by
    rw [Int.pow_succ]
    exact ((bt_pow h i).mul h).mono (by rw [Nat.mul_add]; omega)
local macro_rules | `(tactic| tm_at "fr") => `(tactic| first | with_reducible assumption | (with_reducible refine' FrRow.kp0 ?k1 ?k2; (case k1 => with_reducible assumption); (case k2 => tm_at "fr")) | (with_reducible refine' FrRow.kpP ?k1 ?k3 ?k2; (case k1 => with_reducible assumption); (case k3 => tm_at "lp"); (case k2 => tm_at "fr")) | (with_reducible refine' FrRow.kpL ?k1 ?k3 ?k2; (case k1 => with_reducible assumption); (case k3 => tm_at "lk"); (case k2 => tm_at "fr")) | fail)
local macro_rules | `(tactic| tm_at "sr") => `(tactic| first | with_reducible assumption | (with_reducible refine' ShRow.kp0 ?k1 ?k2; (case k1 => with_reducible assumption); (case k2 => tm_at "sr")) | (with_reducible refine' ShRow.kpL ?k1 ?k3 ?k2; (case k1 => with_reducible assumption); (case k3 => tm_at "lk"); (case k2 => tm_at "sr")) | fail)
theorem sq_kp0 {K : PySem.W.Frag} {H H' : Hp} {p : Addr} {xs : List V} (k : Kp [] H H') (h : SqL K H p xs) : SqL K H' p xs := by
  rcases h with (h | ⟨o, h⟩) | h
  · exact .inl (.inl (k.get0 h))
  · exact .inl (.inr ⟨o, k.get0 h⟩)
  · exact .inr h
theorem sqt_kp0 {K : PySem.W.Frag} {H H' : Hp} {p : Addr} {xs : List V} (k : Kp [] H H') (h : SqT K H p xs) : SqT K H' p xs := by
  rcases h with (h | ⟨o, h⟩) | h
  · exact .inl (.inl (k.get0 h))
  · exact .inl (.inr ⟨o, k.get0 h⟩)
  · exact .inr h
local macro_rules | `(tactic| tm_at "sq") => `(tactic| first | with_reducible assumption | (with_reducible refine' sq_kp0 ?k1 ?k2; (case k1 => with_reducible assumption); (case k2 => with_reducible assumption)) | fail)
local macro_rules | `(tactic| tm_at "sqt") => `(tactic| first | with_reducible assumption | (with_reducible refine' sqt_kp0 ?k1 ?k2; (case k1 => with_reducible assumption); (case k2 => with_reducible assumption)) | fail)
local macro_rules | `(tactic| tm_at "ft") => `(tactic| first | (with_reducible refine' FrT.kpL ?k1 ?k3 ?k2; (case k1 => with_reducible assumption); (case k3 => tm_at "lk"); (case k2 => tm_at "ft")) | fail)
local macro_rules | `(tactic| tm_at "sh") => `(tactic| first | (with_reducible refine' ShAt.kpL ?k1 ?k3 ?k2; (case k1 => with_reducible assumption); (case k3 => tm_at "lk"); (case k2 => tm_at "sh")) | fail)

/-! ## promises -/
def spAt (C : Addr) : Sp := fun vs H Q _ => ∃ (p q : Addr) (t b t' b' : Int), vs = [.ref p, .ref q] ∧ ShAt C H p t b ∧ ShAt C H q t' b' ∧ Bt 60000 t ∧ Bt 60000 b ∧ Bt 60000 t' ∧ Bt 60000 b' ∧ Q (.bl (decide (t * b' ≤ t' * b))) H
def spMean (K : PySem.W.Frag) (C CB : Addr) (tup : Bool) : Sp := fun vs H Q E => ∃ (l : Addr) (ws : List V) (fs : List (Int × Int)), vs = [.ref l] ∧ (if tup then SqT K H l ws else SqL K H l ws) ∧ ShRow C H ws fs ∧ (∀ f ∈ fs, OkF f) ∧ fs.length ≤ 6 ∧
  (fs = [] → E (.ref CB) none H) ∧ (fs ≠ [] → ∀ p t b H', Kp [] H H' → ShAt C H' p t b → Fr.Fr t b (Fr.sumRow fs).1 ((Fr.sumRow fs).2 * fs.length) → Q (.ref p) H')
def spGreat (K : PySem.W.Frag) (C : Addr) (tup : Bool) : Sp := fun vs H Q _ => ∃ (l : Addr) (ws : List V) (fs : List (Int × Int)), vs = [.ref l] ∧ (if tup then SqT K H l ws else SqL K H l ws) ∧ ShRow C H ws fs ∧ (∀ f ∈ fs, OkF f) ∧
  (∀ p t b H', Kp [] H H' → ShAt C H' p t b → Fr.Fr t b (Fr.bestRow fs).1 (Fr.bestRow fs).2 → Q (.ref p) H')
def spPow (C : Addr) : Sp := fun vs H Q _ => ∃ (p : Addr) (e t b u d : Int) (n : Nat), vs = [.ref p, .int e] ∧ ShAt C H p t b ∧ Fr.Fr t b u d ∧ Bt n t ∧ Bt n b ∧ 0 ≤ e ∧ e ≤ 100 ∧ n * (e.toNat + 1) ≤ 3900 ∧ 
  (∀ q H', Kp [] H H' → ShAt C H' q (t ^ e.toNat) (b ^ e.toNat) → Q (.ref q) H')
section
variable {H : Hp} {Q : VK} {E : XK} {C CB : Addr} {K : PySem.W.Frag}
theorem k_at {p q : Addr} {t b t' b' : Int} {vs : List V} (hv : vs = [.ref p, .ref q]) (h1 : ShAt C H p t b) (h2 : ShAt C H q t' b') (s1 : Bt 60000 t) (s2 : Bt 60000 b) (s3 : Bt 60000 t') (s4 : Bt 60000 b') (k : Q (.bl (decide (t * b' ≤ t' * b))) H) : spAt C vs H Q E := ⟨p, q, t, b, t', b', hv, h1, h2, s1, s2, s3, s4, k⟩
end
local macro_rules | `(tactic| tm_at "step") => `(tactic| first | (with_reducible refine' meth_sh ?k1 ?k2 ?k3 ?_; (case k1 => tm_at "sh"); (case k2 => k_dflt (decide +kernel)); (case k3 => k_dflt (decide +kernel))) | fail)
local macro_rules | `(tactic| tm_at "step") => `(tactic| first | (with_reducible refine' k_at ?k0 ?k1 ?k2 ?k3 ?k4 ?k5 ?k6 ?_; (case k0 => k_dflt rfl); (case k1 => tm_at "sh"); (case k2 => tm_at "sh"); (case k3 => tm_at "bm"); (case k4 => tm_at "bm"); (case k5 => tm_at "bm"); (case k6 => tm_at "bm")) | fail)
local macro_rules | `(tactic| tm_at "step") => `(tactic| first | (with_reducible refine' k_share ?k1 ?k2 ?_; (case k1 => tm_at "b1"); (case k2 => tm_at "bm"); intro p_ H_ t_ b_ hn_ hk_ hs_ hf_) | fail)
local macro_rules | `(tactic| tm_at "step") => `(tactic| first | (with_reducible refine' k_share1 ?_; intro p_ H_ t_ b_ hn_ hk_ hs_ hf_) | fail)

section
variable {P : Program} {w : World} {K : PySem.W.Frag} {mg : Str → Option Value} {base : Heap} {CShare COddsError CBadShare CBadText CBadBook CBadMove CBadProgram CBadPlan CUnfit CTooLarge CBadEdit : Addr}
theorem ok_l_int (T : Txt K mg CShare COddsError CBadShare CBadText CBadBook CBadMove CBadProgram CBadPlan CUnfit CTooLarge CBadEdit) : Fc P w K mg base CX0 1 "_law_int" ["x"] (spInt) := by
  refine fc_of T.d_l_int sc_l_int (fun vs H Q E h => by obtain ⟨i, rfl, k⟩ := h; rfl) (fun _ _ _ _ _ _ us hl => match us, hl with | [_], _ => rfl) fun f cdv A outer s H vs Q E hr h => ⟨_, (pss_one (ps_ret (pe_and (pe_callB (isiK K) (by rfl) T.n_isinstance b_isinstance (pa_cons (pv 0) (pa_cons (pe_bltn (v := .ty "int") (by rfl) T.n_int b_int rfl) pa_nil))) (pe_one (pe_not (pe_callB (isiK K) (by rfl) T.n_isinstance b_isinstance (pa_cons (pv 0) (pa_cons (pe_bltn (v := .ty "bool") (by rfl) T.n_bool b_bool rfl) pa_nil)))))))), ?_⟩
  obtain ⟨i, rfl, k⟩ := h
  tm_at "go"
  exact k
theorem ok_l_pool (T : Txt K mg CShare COddsError CBadShare CBadText CBadBook CBadMove CBadProgram CBadPlan CUnfit CTooLarge CBadEdit) : Fc P w K mg base CX0 1 "_law_pool" ["script", "at"] (spPool K) := by
  refine fc_of T.d_l_pool sc_l_pool (fun vs H Q E h => by obtain ⟨a, ns, i, rfl, hs, h0, k⟩ := h; rfl) (fun _ _ _ _ _ _ us hl => match us, hl with | [_, _], _ => rfl) fun f cdv A outer s H vs Q E hr h => ⟨_, (pss_cons (ps_set (i := 2) sc_l_pool.nd rfl (Or.inl rfl) pe_int)
 (pss_cons (ps_if (pt_cmpR op_lt (pv 1) (pe_callB (lenK K) (by rfl) T.n_len b_len (pa_cons (pv 0) pa_nil)) (nomark _))
 (pss_one (ps_set (i := 2) sc_l_pool.nd rfl (Or.inl rfl) (pe_callB c_abs (by rfl) T.n_abs b_abs (pa_cons (pe_callTy c_int1 (by rfl) T.n_int b_int (pa_cons (pe_ix (ixlK K) (pv 0) (pv 1) (fun _ _ => rfl)) pa_nil)) pa_nil))))
 pss_nil)
 (pss_cons (ps_set (i := 3) sc_l_pool.nd rfl (Or.inl rfl) (pe_op op_add (pe_callTy c_int1 (by rfl) T.n_int b_int (pa_cons (pe_cmpR op_gt (pv 2) pe_int (nomark _)) pa_nil)) (pe_callTy c_int1 (by rfl) T.n_int b_int (pa_cons (pe_cmpR op_ge (pv 2) (pe_op op_pow pe_int pe_int) (nomark _)) pa_nil))))
 (pss_one (ps_ret (pe_lst (pa_cons (pv 2) (pa_cons (pe_op op_mod (pe_callTy c_int1 (by rfl) T.n_int b_int (pa_cons (pv 2) pa_nil)) pe_int) (pa_cons pe_int (pa_cons (pv 3) pa_nil)))))))))), ?_⟩
  obtain ⟨a, ns, i, rfl, hs, h0, k⟩ := h
  tm_at "go"
  · rename_i hc
    obtain ⟨z, hz⟩ := atI_int h0 hc
    refine u_ixL hs.sq hz ?_
    tm_at "run"
    rename_i hp
    exact k _ _ (by assumption) (by assumption) ⟨_, _, _, _, hp⟩
  · rename_i hp
    exact k _ _ (by assumption) (by assumption) ⟨_, _, _, _, hp⟩
theorem ok_l_stirred (T : Txt K mg CShare COddsError CBadShare CBadText CBadBook CBadMove CBadProgram CBadPlan CUnfit CTooLarge CBadEdit) : Fc P w K mg base CX0 2 "_law_stirred" ["script", "at"] (spPool K) := by
  refine fc_of T.d_l_stirred sc_l_stirred (fun vs H Q E h => by obtain ⟨a, ns, i, rfl, hs, h0, k⟩ := h; rfl) (fun _ _ _ _ _ _ us hl => match us, hl with | [_, _], _ => rfl) fun f cdv A outer s H vs Q E hr h => ⟨_, (pss_cons (ps_set (i := 2) sc_l_stirred.nd rfl (Or.inl rfl) (pe_fc (ok_l_pool T) pass0 (hr.mono (by decide)) (pa_cons (pv 0) (pa_cons (pv 1) pa_nil))))
 (pss_cons (ps_for PassesOwn.never rfl (piLK K (pe_slice (sllK K) (pv 0) po_none (po_some pe_int))) (pg_name (i := 3) sc_l_stirred.nd rfl (Or.inl rfl))
 (pss_one (ps_asg (pe_op op_mod (pe_callTy c_int1 (by rfl) T.n_int b_int (pa_cons (pe_op op_add (pe_op op_mul (pe_ix (ixlK K) (pv 2) pe_int (fun _ _ => rfl)) pe_int) (pv 3)) pa_nil)) pe_int) (pg_sub (pv 2) pe_int set_list))))
 (pss_one (ps_ret (pv 2))))), ?_⟩
  obtain ⟨a, ns, i, rfl, hs, h0, k⟩ := h
  tm_at "go"
  rename_i p H1 hn hk hp q H2 hn2 hk2 hq
  obtain ⟨ms, em, _⟩ := cutV_map (ns := ns) (lo := none) (hi := some 6)
  rw [em] at hq
  refine l_list (ms.map V.int) (fun _ σ H' => ∃ v : Option V, σ = [some (.ref a), some (.int i), some (.ref p), v] ∧ Kp [] H H' ∧ Pool H' p ∧ H' q = some (.lst (ms.map V.int))) ?_ ?_ ?_ ?_
  · exact ⟨none, rfl, by tm_at "kc", by tm_at "lp", hq⟩
  · rintro j σ H' _ ⟨_, _, _, _, e⟩
    exact sql e
  · rintro j x σ H3 hx ⟨v, rfl, hk3, ⟨c, y, n, d, hp3⟩, hq3⟩
    obtain ⟨z, rfl⟩ := item_int hx
    have npq : q ≠ p := (Pool.ne hn2 hp).symm
    tm_at "run"
    rename_i H4 hk4 hp4
    exact ⟨_, rfl, hk3.low' hk4 hn .refl, ⟨_, _, _, _, hp4⟩, hk4.get1 npq hq3⟩
  · rintro σ H3 ⟨v, rfl, hk3, hp3, _⟩
    tm_at "run"
    exact k _ _ hn hk3 hp3
theorem ok_l_draw (T : Txt K mg CShare COddsError CBadShare CBadText CBadBook CBadMove CBadProgram CBadPlan CUnfit CTooLarge CBadEdit) : Fc P w K mg base CX0 1 "_law_draw" ["pool", "many"] (spDraw) := by
  refine fc_of T.d_l_draw sc_l_draw (fun vs H Q E h => by obtain ⟨a, m, rfl, ⟨c, x, n, j, hp⟩, hm, k⟩ := h; rfl) (fun _ _ _ _ _ _ us hl => match us, hl with | [_, _], _ => rfl) fun f cdv A outer s H vs Q E hr h => ⟨_, (pss_cons (ps_asg (pe_op op_add (pe_ix (ixlK K) (pv 0) pe_int (fun _ _ => rfl)) pe_int) (pg_sub (pv 0) pe_int set_list))
 (pss_cons (ps_if (PW.pt (pw_or (pt_cmpR op_eq (pe_ix (ixlK K) (pv 0) pe_int (fun _ _ => rfl)) pe_int (nomark _)) (pw_or1 (pt_cmpR op_lt (pv 1) pe_int (nomark _)))))
 (pss_one (ps_ret pe_int))
 pss_nil)
 (pss_cons (ps_if (PW.pt (pw_and (pt_cmpR op_eq (pe_ix (ixlK K) (pv 0) pe_int (fun _ _ => rfl)) pe_int (nomark _)) (pw_and1 (pt_cmpR op_gt (pe_ix (ixlK K) (pv 0) pe_int (fun _ _ => rfl)) pe_int (nomark _)))))
 (pss_cons (ps_set (i := 2) sc_l_draw.nd rfl (Or.inl rfl) (pe_op op_mod (pe_callTy c_int1 (by rfl) T.n_int b_int (pa_cons (pe_ix (ixlK K) (pv 0) pe_int (fun _ _ => rfl)) pa_nil)) (pv 1)))
 (pss_cons (ps_asg (pe_op op_fdivW (pe_ix (ixlK K) (pv 0) pe_int (fun _ _ => rfl)) (pv 1)) (pg_sub (pv 0) pe_int set_list))
 (pss_one (ps_ret (pv 2)))))
 pss_nil)
 (pss_cons (ps_set (i := 3) sc_l_draw.nd rfl (Or.inl rfl) (pe_op op_mod (pe_callTy c_int1 (by rfl) T.n_int b_int (pa_cons (pe_op op_add (pe_op op_add (pe_op op_mul (pe_ix (ixlK K) (pv 0) pe_int (fun _ _ => rfl)) pe_int) (pe_op op_mul (pe_ix (ixlK K) (pv 0) pe_int (fun _ _ => rfl)) pe_int)) pe_int) pa_nil)) pe_int))
 (pss_cons (ps_set (i := 3) sc_l_draw.nd rfl (Or.inl rfl) (pe_op op_mod (pe_callTy c_int1 (by rfl) T.n_int b_int (pa_cons (pe_op op_add (pe_op op_mul (pv 3) (pv 3)) (pe_ix (ixlK K) (pv 0) pe_int (fun _ _ => rfl))) pa_nil)) pe_int))
 (pss_cons (ps_set (i := 3) sc_l_draw.nd rfl (Or.inl rfl) (pe_op op_mod (pe_callTy c_int1 (by rfl) T.n_int b_int (pa_cons (pe_op op_add (pe_op op_mul (pv 3) (pv 3)) (pe_ix (ixlK K) (pv 0) pe_int (fun _ _ => rfl))) pa_nil)) pe_int))
 (pss_one (ps_ret (pe_op op_mod (pe_callTy c_int1 (by rfl) T.n_int b_int (pa_cons (pe_op op_fdivW (pv 3) pe_int) pa_nil)) (pv 1)))))))))), ?_⟩
  obtain ⟨a, m, rfl, ⟨c, x, n, j, hp⟩, hm, k⟩ := h
  tm_at "go"
  · exact k _ _ (by omega) (by omega) (by tm_at "kc") ⟨_, _, _, _, by assumption⟩
  · exact k _ _ (by omega) (by omega) (by tm_at "kc") ⟨_, _, _, _, by assumption⟩
  all_goals exact k _ _ (Int.emod_nonneg _ (by omega)) (Or.inl (Int.emod_lt_of_pos _ (by omega))) (by tm_at "kc") ⟨_, _, _, _, by assumption⟩

theorem ok_l_size (T : Txt K mg CShare COddsError CBadShare CBadText CBadBook CBadMove CBadProgram CBadPlan CUnfit CTooLarge CBadEdit) : Fc P w K mg base CX0 2 "_law_size" ["pool"] (spSize) := by
  refine fc_of T.d_l_size sc_l_size (fun vs H Q E h => by obtain ⟨a, rfl, hp, k⟩ := h; rfl) (fun _ _ _ _ _ _ us hl => match us, hl with | [_], _ => rfl) fun f cdv A outer s H vs Q E hr h => ⟨_, (pss_cons (ps_set (i := 1) sc_l_size.nd rfl (Or.inl rfl) (pe_fc (ok_l_draw T) pass0 (hr.mono (by decide)) (pa_cons (pv 0) (pa_cons pe_int pa_nil))))
 (pss_cons (ps_if (pt_cmpR op_eq (pv 1) pe_int (nomark _))
 (pss_one (ps_ret (pe_fc (ok_l_draw T) pass0 (hr.mono (by decide)) (pa_cons (pv 0) (pa_cons pe_int pa_nil)))))
 pss_nil)
 (pss_cons (ps_if (pt_cmpR op_eq (pv 1) pe_int (nomark _))
 (pss_one (ps_ret (pe_fc (ok_l_draw T) pass0 (hr.mono (by decide)) (pa_cons (pv 0) (pa_cons (pe_op op_pow pe_int pe_int) pa_nil)))))
 pss_nil)
 (pss_cons (ps_if (pt_cmpR op_eq (pv 1) pe_int (nomark _))
 (pss_one (ps_ret (pe_ix (ixlK K) (pe_lst (pa_cons (pe_op op_sub (pe_op op_pow pe_int pe_int) pe_int) (pa_cons (pe_op op_pow pe_int pe_int) (pa_cons (pe_op op_pow pe_int pe_int) (pa_cons (pe_op op_sub (pe_op op_pow pe_int pe_int) pe_int) (pa_cons (pe_op op_pow pe_int pe_int) (pa_cons (pe_op op_add (pe_op op_pow pe_int pe_int) pe_int) (pa_cons pe_int (pa_cons pe_int pa_nil))))))))) (pe_fc (ok_l_draw T) pass0 (hr.mono (by decide)) (pa_cons (pv 0) (pa_cons pe_int pa_nil))) (fun _ _ => rfl))))
 pss_nil)
 (pss_cons (ps_set (i := 2) sc_l_size.nd rfl (Or.inl rfl) pe_int)
 (pss_cons (ps_for PassesOwn.never rfl (pi_range1 (by rfl) T.n_range (pa_cons pe_int pa_nil)) (pg_name (i := 3) sc_l_size.nd rfl (Or.inl rfl))
 (pss_one (ps_set (i := 2) sc_l_size.nd rfl (Or.inl rfl) (pe_op op_add (pe_op op_mul (pv 2) (pe_op op_pow pe_int pe_int)) (pe_fc (ok_l_draw T) pass0 (hr.mono (by decide)) (pa_cons (pv 0) (pa_cons (pe_op op_pow pe_int pe_int) pa_nil)))))))
 (pss_one (ps_ret (pv 2))))))))), ?_⟩
  obtain ⟨a, rfl, hp, k⟩ := h
  tm_at "go"
  · exact k _ _ (by omega) (by omega) (by tm_at "kc") (by assumption)
  · exact k _ _ (by omega) (by omega) (by tm_at "kc") (by assumption)
  · rename_i p H1 hn hk1 ho r H2 h0 h1 hk2 hp2
    refine Exists.elim (atI_mem (xs := [V.int 999999999999999999999999999999999999999999999999999999999999, V.int 100000000000000000000000000000000000000000000000000000000000, V.int 18446744073709551616, V.int 9223372036854775807, V.int 1000000000000000000000000000000, V.int 1000000000000000009, V.int 255, V.int 100]) h0 (by show r < (8 : Int); omega)) ?_
    rintro v ⟨hv, hm⟩
    have hb : ∃ z : Int, v = .int z ∧ 0 ≤ z ∧ z < 1000000000000000000000000000000000000000000000000000000000000 := by
      simp only [List.mem_cons, List.not_mem_nil, or_false] at hm
      rcases hm with rfl | rfl | rfl | rfl | rfl | rfl | rfl | rfl <;> exact ⟨_, rfl, by omega, by omega⟩
    obtain ⟨z, rfl, z0, z1⟩ := hb
    refine u_ixL (sql (hk2.get1 (by tm_at "ne") ho)) hv ?_
    exact k _ _ z0 z1 (by tm_at "kc") (by assumption)
  · rename_i r H1 h0 h1 hk1 hp1 _ _ _
    refine l_range (fun i σ H' => ∃ (t : Int) (v : Option V), σ = [some (.ref a), some (.int r), some (.int t), v] ∧ 0 ≤ t ∧ t + 1 ≤ (1000000 : Int) ^ i ∧ Kp [a] H H' ∧ Pool H' a) ?_ ?_ ?_
    · exact ⟨0, none, rfl, by omega, by simp, by tm_at "kc", by assumption⟩
    · rintro i σ H2 hi ⟨t, v, rfl, t0, t1, hk2, hp2⟩
      tm_at "run"
      rename_i r2 H3 h02 h12 hk3 hp3
      refine ⟨_, _, rfl, by omega, ?_, by tm_at "kc", by assumption⟩
      rw [Int.pow_succ]
      omega
    · rintro σ H2 ⟨t, v, rfl, t0, t1, hk2, hp2⟩
      tm_at "run"
      refine k _ _ t0 ?_ hk2 hp2
      have e : (1000000 : Int) ^ (Int.toNat 10) = 1000000000000000000000000000000000000000000000000000000000000 := by decide +kernel
      omega
theorem ok_l_fraction (T : Txt K mg CShare COddsError CBadShare CBadText CBadBook CBadMove CBadProgram CBadPlan CUnfit CTooLarge CBadEdit) : Fc P w K mg base CX0 3 "_law_fraction" ["pool"] (spFrac) := by
  refine fc_of T.d_l_fraction sc_l_fraction (fun vs H Q E h => by obtain ⟨a, rfl, hp, k⟩ := h; rfl) (fun _ _ _ _ _ _ us hl => match us, hl with | [_], _ => rfl) fun f cdv A outer s H vs Q E hr h => ⟨_, (pss_cons (ps_set (i := 1) sc_l_fraction.nd rfl (Or.inl rfl) (pe_fc (ok_l_size T) pass0 (hr.mono (by decide)) (pa_cons (pv 0) pa_nil)))
 (pss_cons (ps_set (i := 2) sc_l_fraction.nd rfl (Or.inl rfl) (pe_callB (c_max2 rfl) (by rfl) T.n_max b_max (pa_cons pe_int (pa_cons (pe_fc (ok_l_size T) pass0 (hr.mono (by decide)) (pa_cons (pv 0) pa_nil)) pa_nil))))
 (pss_cons (ps_if (pt_cmpR op_eq (pe_fc (ok_l_draw T) pass0 (hr.mono (by decide)) (pa_cons (pv 0) (pa_cons pe_int pa_nil))) pe_int (nomark _))
 (pss_cons (ps_set (i := 3) sc_l_fraction.nd rfl (Or.inl rfl) (pe_callB (c_max2 rfl) (by rfl) T.n_max b_max (pa_cons pe_int (pa_cons (pe_op op_mod (pe_callTy c_int1 (by rfl) T.n_int b_int (pa_cons (pe_fc (ok_l_size T) pass0 (hr.mono (by decide)) (pa_cons (pv 0) pa_nil)) pa_nil)) (pe_op op_pow pe_int pe_int)) pa_nil))))
 (pss_cons (ps_set (i := 1) sc_l_fraction.nd rfl (Or.inl rfl) (pe_op op_mulX (pe_op op_mod (pe_callTy c_int1 (by rfl) T.n_int b_int (pa_cons (pv 1) pa_nil)) (pe_op op_pow pe_int pe_int)) (pv 3)))
 (pss_one (ps_set (i := 2) sc_l_fraction.nd rfl (Or.inl rfl) (pe_op op_mulX (pe_callB (c_max2 rfl) (by rfl) T.n_max b_max (pa_cons pe_int (pa_cons (pe_op op_mod (pe_callTy c_int1 (by rfl) T.n_int b_int (pa_cons (pv 2) pa_nil)) (pe_op op_pow pe_int pe_int)) pa_nil))) (pv 3))))))
 pss_nil)
 (pss_cons (ps_if (pt_cmpR op_eq (pe_fc (ok_l_draw T) pass0 (hr.mono (by decide)) (pa_cons (pv 0) (pa_cons pe_int pa_nil))) pe_int (nomark _))
 (pss_one (ps_set (i := 1) sc_l_fraction.nd rfl (Or.inl rfl) (pe_un un_neg (pv 1))))
 pss_nil)
 (pss_one (ps_ret (pe_tup (pa_cons (pv 1) (pa_cons (pv 2) pa_nil))))))))), ?_⟩
  obtain ⟨a, rfl, hp, k⟩ := h
  tm_at "go"
  · rename_i u H1 u0 u1 k1 p1 d0 H2 d00 d01 k2 p2 d _ hd1 hd2 w H3 w0 w1 k3 p3 hw r H4 r0 r1 k4 p4 c hc hc1 hc2 e he he1 he2 s H5 s0 s1 k5 p5 hs p H6 hn k6 ho
    have b1 : Bt 200 (u % 1000000000000000000000000000000 * c) := (bt100 (by omega)).mul (bt100 (by omega))
    have b2 : Bt 200 (e * c) := (bt100 (by omega)).mul (bt100 (by omega))
    exact k _ _ _ _ (by tm_at "kc") (by tm_at "lp") ⟨ho, Int.mul_pos (by omega) (by omega), b1.neg, b2⟩
  · rename_i u H1 u0 u1 k1 p1 d0 H2 d00 d01 k2 p2 d _ hd1 hd2 w H3 w0 w1 k3 p3 hw r H4 r0 r1 k4 p4 c hc hc1 hc2 e he he1 he2 s H5 s0 s1 k5 p5 hs p H6 hn k6 ho
    have b1 : Bt 200 (u % 1000000000000000000000000000000 * c) := (bt100 (by omega)).mul (bt100 (by omega))
    have b2 : Bt 200 (e * c) := (bt100 (by omega)).mul (bt100 (by omega))
    exact k _ _ _ _ (by tm_at "kc") (by tm_at "lp") ⟨ho, Int.mul_pos (by omega) (by omega), b1, b2⟩
  all_goals
    rename_i ho
    exact k _ _ _ _ (by tm_at "kc") (by tm_at "lp") ⟨ho, by omega, bt200 (by omega), bt200 (by omega)⟩

/-! ## the program: Share -/
theorem ok_Share (T : Txt K mg CShare COddsError CBadShare CBadText CBadBook CBadMove CBadProgram CBadPlan CUnfit CTooLarge CBadEdit) : NcSh P w K mg base 1 CShare CBadShare := by
  obtain ⟨f, fd, mk, F⟩ := T.d_init
  refine ⟨f, fd, mk, ?_, T.sh.g, ?_, ?_, ?_⟩
  · refine F.ok sc_Share___init__ (fun vs H Q E h => by obtain ⟨p, dx, u, d, rfl, _⟩ := h; rfl) fun cdv A outer s H vs Q E hr h => ⟨_, (pss_cons (ps_if (pt_cmpR op_lt (pv 2) pe_int (nomark _))
 (pss_one (ps_raise rfl (takes_of rfl rfl rfl rfl) (pmk_own PySem.F.excBase_ValueError T.x_BadShare T.e_BadShare.g T.e_BadShare.k (raises_own T.e_BadShare.b T.e_BadShare.t) rfl)))
 pss_nil)
 (pss_cons (ps_set (i := 3) sc_Share___init__.nd rfl (Or.inl rfl) (pe_callBfun cr_gcd (by rfl) T.g_gcd (pa_cons (pv 1) (pa_cons (pv 2) pa_nil))))
 (pss_cons (ps_fld (pv 0) (pe_op op_fdivW (pv 1) (pv 3)) rfl)
 (pss_one (ps_fld (pv 0) (pe_op op_fdivW (pv 2) (pv 3)) rfl))))), ?_⟩
    obtain ⟨p, dx, u, d, rfl, hp, hb, kE, kQ⟩ := h
    tm_at "go"
    · exact kE (by assumption)
    · rename_i hc
      have hd : 1 ≤ d := by omega
      have gp := Fr.Fr.gpos (u := u) hd
      have gb : Bt 8500 ((Nat.gcd u.natAbs d.natAbs : Nat) : Int) := hb.le (by have := Fr.Fr.gle (u := u) hd; omega)
      have cd : ∀ x, CDivW x ((Nat.gcd u.natAbs d.natAbs : Nat) : Int) := fun x => gb.cdiv gp
      refine u_I (cd _) ?_
      tm_at "run"
      refine sf_of T.sh.cl T.sh.nt hp (by decide) fun H1 k1 e1 => ?_
      tm_at "run"
      refine u_I (cd _) ?_
      tm_at "run"
      refine sf_of T.sh.cl T.sh.nb e1 (by show 1 < 1000; decide) fun H2 k2 e2 => ?_
      rw [shF_put] at e2
      exact kQ hd _ _ _ (k1.trans k2) ⟨_, e2⟩ (Fr.Fr.init hd)
  · obtain ⟨ds, v, b⟩ := F.binds1 (ps := ["self", "top", "bottom"]) 3 1 (by simp) rfl (fun T kV doc pm an cdv ct us its hu hi => match us, its, hu, hi with | [_, _, _], [_], _, _ => ⟨_, rfl, rfl⟩)
    cases v
    exact b
  · exact F.binds1 (ps := ["self", "top", "bottom"]) 2 0 (by simp) rfl (fun T kV doc pm an cdv ct us its hu hi => match us, its, hu, hi with | [_, _], [_], _, _ => ⟨_, rfl, rfl⟩)
  · exact F.kbindsD (ps := ["self", "top", "bottom"]) 2 ["bottom"] (fun vs _ zs => vs ++ zs) (by simp) (fun r1 _ r3 => r1.append r3) (fun T kV doc pm an cdv ct us its ws hu hi hw => match us, its, ws, hu, hi, hw with | [_, _], [_], [_], _, _, _ => ⟨_, rfl, rfl⟩)
theorem ok_Share___add__ (T : Txt K mg CShare COddsError CBadShare CBadText CBadBook CBadMove CBadProgram CBadPlan CUnfit CTooLarge CBadEdit) : Mc P w K mg base (L2.CX P w) 3 CShare "__add__" ["self", "other"] (spAdd CShare gAdd) := by
  refine mc_ofX T.d_Share___add__ sc_Share___add__ (fun vs H Q E h => by obtain ⟨p, q, t, b, t', b', rfl, h1, h2, hb, hb', s1, s2, s3, s4, k⟩ := h; rfl) (fun _ _ _ _ _ _ us hl => match us, hl with | [_, _], _ => rfl) fun f cdv A outer s H vs Q E hr h => ⟨_, (pss_cons (ps_set (i := 2) sc_Share___add__.nd rfl (Or.inl rfl) (pe_op op_add (pe_op op_mulX (fldK K (pv 0) rfl) (fldK K (pv 1) rfl)) (pe_op op_mulX (fldK K (pv 1) rfl) (fldK K (pv 0) rfl))))
 (pss_one (ps_ret (pe_sh (ok_Share T) (passAll passL) (hr.mono (by decide)) (pa_cons (pv 2) (pa_cons (pe_op op_mulX (fldK K (pv 0) rfl) (fldK K (pv 1) rfl)) pa_nil)))))), ?_⟩
  obtain ⟨p, q, t, b, t', b', rfl, h1, h2, hb, hb', s1, s2, s3, s4, k⟩ := h
  have S := T.sh
  tm_at "go"
  refine k_share (Int.mul_pos hb hb') ((s2.mul s4).mono (by decide)) fun r H' x y hr k1 sh fr => ?_
  exact k _ _ _ _ hr k1 sh fr
theorem ok_Share___mul__ (T : Txt K mg CShare COddsError CBadShare CBadText CBadBook CBadMove CBadProgram CBadPlan CUnfit CTooLarge CBadEdit) : Mc P w K mg base (L2.CX P w) 3 CShare "__mul__" ["self", "other"] (spAdd CShare gMul) := by
  refine mc_ofX T.d_Share___mul__ sc_Share___mul__ (fun vs H Q E h => by obtain ⟨p, q, t, b, t', b', rfl, h1, h2, hb, hb', s1, s2, s3, s4, k⟩ := h; rfl) (fun _ _ _ _ _ _ us hl => match us, hl with | [_, _], _ => rfl) fun f cdv A outer s H vs Q E hr h => ⟨_, (pss_one (ps_ret (pe_sh (ok_Share T) (passAll passL) (hr.mono (by decide)) (pa_cons (pe_op op_mulX (fldK K (pv 0) rfl) (fldK K (pv 1) rfl)) (pa_cons (pe_op op_mulX (fldK K (pv 0) rfl) (fldK K (pv 1) rfl)) pa_nil))))), ?_⟩
  obtain ⟨p, q, t, b, t', b', rfl, h1, h2, hb, hb', s1, s2, s3, s4, k⟩ := h
  have S := T.sh
  tm_at "go"
  refine k_share (Int.mul_pos hb hb') ((s2.mul s4).mono (by decide)) fun r H' x y hr k1 sh fr => ?_
  exact k _ _ _ _ hr k1 sh fr
theorem ok_Share_at_most (T : Txt K mg CShare COddsError CBadShare CBadText CBadBook CBadMove CBadProgram CBadPlan CUnfit CTooLarge CBadEdit) : Mc P w K mg base CX0 1 CShare "at_most" ["self", "other"] (spAt CShare) := by
  refine mc_of T.d_Share_at_most sc_Share_at_most (fun vs H Q E h => by obtain ⟨p, q, t, b, t', b', rfl, h1, h2, s1, s2, s3, s4, k⟩ := h; rfl) (fun _ _ _ _ _ _ us hl => match us, hl with | [_, _], _ => rfl) fun f cdv A outer s H vs Q E hr h => ⟨_, (pss_one (ps_ret (pe_cmpR op_le (pe_op op_mulX (fldK K (pv 0) rfl) (fldK K (pv 1) rfl)) (pe_op op_mulX (fldK K (pv 1) rfl) (fldK K (pv 0) rfl)) (nomark _)))), ?_⟩
  obtain ⟨p, q, t, b, t', b', rfl, h1, h2, s1, s2, s3, s4, k⟩ := h
  have S := T.sh
  tm_at "go"
  exact k

theorem ok_mean (T : Txt K mg CShare COddsError CBadShare CBadText CBadBook CBadMove CBadProgram CBadPlan CUnfit CTooLarge CBadEdit) : Fc P w K mg base (L2.CX P w) 5 "mean" ["shares"] (spMean K CShare CBadShare false) := by
  refine fc_ofX T.d_mean sc_mean (fun vs H Q E h => by obtain ⟨l, ws, fs, rfl, hl, hw, ho, h6, hE, hQ⟩ := h; rfl) (fun _ _ _ _ _ _ us hl => match us, hl with | [_], _ => rfl) fun f cdv A outer s H vs Q E hr h => ⟨_, (pss_cons (ps_if (pt_cmpR op_eq (pe_callB (lenK K) (by rfl) T.n_len b_len (pa_cons (pv 0) pa_nil)) pe_int (nomark _))
 (pss_one (ps_raise rfl (takes_of rfl rfl rfl rfl) (pmk_own PySem.F.excBase_ValueError T.x_BadShare T.e_BadShare.g T.e_BadShare.k (raises_own T.e_BadShare.b T.e_BadShare.t) rfl)))
 pss_nil)
 (PSs.nox (pss_cons (ps_set (i := 1) sc_mean.nd rfl (Or.inl rfl) (pe_sh1 (ok_Share T) (passAll passL) (hr.mono (by decide)) (pa_cons pe_int pa_nil)))
 (pss_cons (ps_for PassesOwn.never rfl (piLK K (pv 0)) (pg_name (i := 2) sc_mean.nd rfl (Or.inl rfl))
 (pss_one (ps_set (i := 1) sc_mean.nd rfl (Or.inl rfl) (pe_op (op_mc (ok_Share___add__ T) T.sh.sf passL (hr.mono (by decide))) (pv 1) (pv 2)))))
 (pss_one (ps_ret (pe_sh (ok_Share T) (passAll passL) (hr.mono (by decide)) (pa_cons (fldK K (pv 1) rfl) (pa_cons (pe_op op_mulX (fldK K (pv 1) rfl) (pe_callB (lenK K) (by rfl) T.n_len b_len (pa_cons (pv 0) pa_nil))) pa_nil))))))))), ?_⟩
  obtain ⟨l, ws, fs, rfl, hl, hw, ho, h6, hE, hQ⟩ := h
  have S := T.sh
  have hl : SqL K H l ws := hl
  have el : ws.length = fs.length := Paired.length hw
  tm_at "go"
  · rename_i hc
    exact hE (List.eq_nil_of_length_eq_zero (by omega))
  · rename_i hc q H1 tq bq hn hk hq hf
    refine l_list ws (fun i σ H' => ∃ (p : Addr) (t b : Int) (v : Option V), σ = [some (.ref l), some (.ref p), v] ∧ Kp [] H H' ∧ ShAt CShare H' p t b ∧ Fr.Fr t b (Fr.sumRow (fs.take i)).1 (Fr.sumRow (fs.take i)).2) ?_ ?_ ?_ ?_
    · exact ⟨_, _, _, _, rfl, hk, hq, hf⟩
    · rintro i σ H' _ ⟨_, _, _, _, _, k1, _⟩
      tm_at "sq"
    · rintro i x σ H' hx ⟨p, t, b, v, rfl, k1, s1, f1⟩
      obtain ⟨f, hf2, a, t', b', rfl, s2, f2⟩ := paired_get hw hx
      have s2 := s2.kp0 k1
      obtain ⟨o1, o2, o3⟩ := ho f (List.mem_of_getElem? hf2)
      have hi := (List.getElem?_eq_some_iff.mp hf2).1
      obtain ⟨z1, z2, z3⟩ := sum_bt ho i (by omega)
      have b1 := f1.1
      have b2 := f2.1
      have y1 : Bt 1300 t := (z1.mono (by omega)).le (f1.absle z3)
      have y2 : Bt 1300 b := (z2.mono (by omega)).le (by have := f1.le z3; omega)
      have y3 : Bt 200 t' := o2.le (f2.absle o1)
      have y4 : Bt 200 b' := o3.le (by have := f2.le o1; omega)
      tm_at "run"
      rename_i H2 x y hn2 k2 sr fr _ _ _
      refine ⟨_, _, _, _, rfl, by tm_at "kc", sr, ?_⟩
      rw [Fr.sum_more hf2]
      exact Fr.Fr.add f1 f2 fr
    · rintro σ H' ⟨p, t, b, v, rfl, k1, s1, f1⟩
      obtain ⟨z1, z2, z3⟩ := sum_bt ho fs.length (Nat.le_refl _)
      rw [el, List.take_length] at f1
      rw [List.take_length] at z1 z2 z3
      have b1 := f1.1
      have y1 : Bt 1300 t := (z1.mono (by omega)).le (f1.absle z3)
      have y2 : Bt 1300 b := (z2.mono (by omega)).le (by have := f1.le z3; omega)
      have lb : Bt 30 ((ws.length : Nat) : Int) := bt30 (by omega)
      have cm : CMulX b ((ws.length : Nat) : Int) := y2.cmul lb
      have l1 : 1 ≤ b * ((ws.length : Nat) : Int) := Int.mul_pos b1 (by omega)
      have lw : Bt 8500 (b * ((ws.length : Nat) : Int)) := (y2.mul lb).mono (by decide)
      tm_at "run"
      rename_i r H2 x y hn2 k2 sr fr
      refine hQ (fun z => hc (by rw [el, z]; rfl)) _ _ _ _ (by tm_at "kc") sr ?_
      rw [el] at fr l1
      refine fr.val l1 ?_
      obtain ⟨_, _, f3⟩ := f1
      grind

theorem ok_mean_t (T : Txt K mg CShare COddsError CBadShare CBadText CBadBook CBadMove CBadProgram CBadPlan CUnfit CTooLarge CBadEdit) : Fc P w K mg base (L2.CX P w) 5 "mean" ["shares"] (spMean K CShare CBadShare true) := by
  refine fc_ofX T.d_mean sc_mean (fun vs H Q E h => by obtain ⟨l, ws, fs, rfl, hl, hw, ho, h6, hE, hQ⟩ := h; rfl) (fun _ _ _ _ _ _ us hl => match us, hl with | [_], _ => rfl) fun f cdv A outer s H vs Q E hr h => ⟨_, (pss_cons (ps_if (pt_cmpR op_eq (pe_callB (lenK K) (by rfl) T.n_len b_len (pa_cons (pv 0) pa_nil)) pe_int (nomark _))
 (pss_one (ps_raise rfl (takes_of rfl rfl rfl rfl) (pmk_own PySem.F.excBase_ValueError T.x_BadShare T.e_BadShare.g T.e_BadShare.k (raises_own T.e_BadShare.b T.e_BadShare.t) rfl)))
 pss_nil)
 (PSs.nox (pss_cons (ps_set (i := 1) sc_mean.nd rfl (Or.inl rfl) (pe_sh1 (ok_Share T) (passAll passL) (hr.mono (by decide)) (pa_cons pe_int pa_nil)))
 (pss_cons (ps_for PassesOwn.never rfl (piTK K (pv 0)) (pg_name (i := 2) sc_mean.nd rfl (Or.inl rfl))
 (pss_one (ps_set (i := 1) sc_mean.nd rfl (Or.inl rfl) (pe_op (op_mc (ok_Share___add__ T) T.sh.sf passL (hr.mono (by decide))) (pv 1) (pv 2)))))
 (pss_one (ps_ret (pe_sh (ok_Share T) (passAll passL) (hr.mono (by decide)) (pa_cons (fldK K (pv 1) rfl) (pa_cons (pe_op op_mulX (fldK K (pv 1) rfl) (pe_callB (lenK K) (by rfl) T.n_len b_len (pa_cons (pv 0) pa_nil))) pa_nil))))))))), ?_⟩
  obtain ⟨l, ws, fs, rfl, hl, hw, ho, h6, hE, hQ⟩ := h
  have S := T.sh
  have hl : SqT K H l ws := hl
  have el : ws.length = fs.length := Paired.length hw
  tm_at "go"
  · rename_i hc
    exact hE (List.eq_nil_of_length_eq_zero (by omega))
  · rename_i hc q H1 tq bq hn hk hq hf
    refine l_tup ws (fun i σ H' => ∃ (p : Addr) (t b : Int) (v : Option V), σ = [some (.ref l), some (.ref p), v] ∧ Kp [] H H' ∧ ShAt CShare H' p t b ∧ Fr.Fr t b (Fr.sumRow (fs.take i)).1 (Fr.sumRow (fs.take i)).2) ?_ ?_ ?_ ?_
    · exact ⟨_, _, _, _, rfl, hk, hq, hf⟩
    · rintro i σ H' _ ⟨_, _, _, _, _, k1, _⟩
      tm_at "sqt"
    · rintro i x σ H' hx ⟨p, t, b, v, rfl, k1, s1, f1⟩
      obtain ⟨f, hf2, a, t', b', rfl, s2, f2⟩ := paired_get hw hx
      have s2 := s2.kp0 k1
      obtain ⟨o1, o2, o3⟩ := ho f (List.mem_of_getElem? hf2)
      have hi := (List.getElem?_eq_some_iff.mp hf2).1
      obtain ⟨z1, z2, z3⟩ := sum_bt ho i (by omega)
      have b1 := f1.1
      have b2 := f2.1
      have y1 : Bt 1300 t := (z1.mono (by omega)).le (f1.absle z3)
      have y2 : Bt 1300 b := (z2.mono (by omega)).le (by have := f1.le z3; omega)
      have y3 : Bt 200 t' := o2.le (f2.absle o1)
      have y4 : Bt 200 b' := o3.le (by have := f2.le o1; omega)
      tm_at "run"
      rename_i H2 x y hn2 k2 sr fr _ _ _
      refine ⟨_, _, _, _, rfl, by tm_at "kc", sr, ?_⟩
      rw [Fr.sum_more hf2]
      exact Fr.Fr.add f1 f2 fr
    · rintro σ H' ⟨p, t, b, v, rfl, k1, s1, f1⟩
      obtain ⟨z1, z2, z3⟩ := sum_bt ho fs.length (Nat.le_refl _)
      rw [el, List.take_length] at f1
      rw [List.take_length] at z1 z2 z3
      have b1 := f1.1
      have y1 : Bt 1300 t := (z1.mono (by omega)).le (f1.absle z3)
      have y2 : Bt 1300 b := (z2.mono (by omega)).le (by have := f1.le z3; omega)
      have lb : Bt 30 ((ws.length : Nat) : Int) := bt30 (by omega)
      have cm : CMulX b ((ws.length : Nat) : Int) := y2.cmul lb
      have l1 : 1 ≤ b * ((ws.length : Nat) : Int) := Int.mul_pos b1 (by omega)
      have lw : Bt 8500 (b * ((ws.length : Nat) : Int)) := (y2.mul lb).mono (by decide)
      tm_at "run"
      rename_i r H2 x y hn2 k2 sr fr
      refine hQ (fun z => hc (by rw [el, z]; rfl)) _ _ _ _ (by tm_at "kc") sr ?_
      rw [el] at fr l1
      refine fr.val l1 ?_
      obtain ⟨_, _, f3⟩ := f1
      grind

theorem ok_greatest (T : Txt K mg CShare COddsError CBadShare CBadText CBadBook CBadMove CBadProgram CBadPlan CUnfit CTooLarge CBadEdit) : Fc P w K mg base CX0 4 "greatest" ["shares"] (spGreat K CShare false) := by
  refine fc_of T.d_greatest sc_greatest (fun vs H Q E h => by obtain ⟨l, ws, fs, rfl, hl, hw, ho, hQ⟩ := h; rfl) (fun _ _ _ _ _ _ us hl => match us, hl with | [_], _ => rfl) fun f cdv A outer s H vs Q E hr h => ⟨_, (pss_cons (ps_set (i := 1) sc_greatest.nd rfl (Or.inl rfl) (pe_sh1 (ok_Share T) (passAll passL) (hr.mono (by decide)) (pa_cons pe_int pa_nil)))
 (pss_cons (ps_for PassesOwn.never rfl (piLK K (pv 0)) (pg_name (i := 2) sc_greatest.nd rfl (Or.inl rfl))
 (pss_one (ps_if (pt_not (pt_val (pe_mc (ok_Share_at_most T) T.sh.cl pass0 (hr.mono (by decide)) (pv 2) (pa_cons (pv 1) pa_nil))))
 (pss_one (ps_set (i := 1) sc_greatest.nd rfl (Or.inl rfl) (pv 2)))
 pss_nil)))
 (pss_one (ps_ret (pv 1))))), ?_⟩
  obtain ⟨l, ws, fs, rfl, hl, hw, ho, hQ⟩ := h
  have S := T.sh
  have hl : SqL K H l ws := hl
  have el : ws.length = fs.length := Paired.length hw
  tm_at "go"
  rename_i q H1 tq bq hn hk hq hf
  refine l_list ws (fun i σ H' => ∃ (p : Addr) (t b : Int) (v : Option V), σ = [some (.ref l), some (.ref p), v] ∧ Kp [] H H' ∧ ShAt CShare H' p t b ∧ Fr.Fr t b (Fr.bestRow (fs.take i)).1 (Fr.bestRow (fs.take i)).2) ?_ ?_ ?_ ?_
  · exact ⟨_, _, _, _, rfl, hk, hq, hf⟩
  · rintro i σ H' _ ⟨_, _, _, _, _, k1, _⟩
    tm_at "sq"
  · rintro i x σ H' hx ⟨p, t, b, v, rfl, k1, s1, f1⟩
    obtain ⟨f, hf2, a, t', b', rfl, s2, f2⟩ := paired_get hw hx
    have s2 := s2.kp0 k1
    obtain ⟨o1, o2, o3⟩ := ho f (List.mem_of_getElem? hf2)
    obtain ⟨z3, z1, z2⟩ := best_ok (l := fs.take i) fun g hg => ho g (List.mem_of_mem_take hg)
    have b1 := f1.1
    have b2 := f2.1
    have y1 : Bt 200 t := z1.le (f1.absle z3)
    have y2 : Bt 200 b := z2.le (by have := f1.le z3; omega)
    have y3 : Bt 200 t' := o2.le (f2.absle o1)
    have y4 : Bt 200 b' := o3.le (by have := f2.le o1; omega)
    have li := Fr.Fr.le_iff f2 f1 o1 z3
    have bm := Fr.best_more hf2
    tm_at "run"
    · rename_i hc
      refine ⟨_, _, _, _, rfl, k1, s1, ?_⟩
      have : Fr.bestStep (Fr.bestRow (fs.take i)) f = Fr.bestRow (fs.take i) := if_neg (Int.not_lt.mpr (li.mp hc))
      rw [bm, this]
      exact f1
    · rename_i hc
      refine ⟨_, _, _, _, rfl, k1, s2, ?_⟩
      have : Fr.bestStep (Fr.bestRow (fs.take i)) f = f := if_pos (Int.not_le.mp fun z => hc (li.mpr z))
      rw [bm, this]
      exact f2
  · rintro σ H' ⟨p, t, b, v, rfl, k1, s1, f1⟩
    tm_at "run"
    rw [el, List.take_length] at f1
    exact hQ _ _ _ _ k1 s1 f1

theorem ok_greatest_t (T : Txt K mg CShare COddsError CBadShare CBadText CBadBook CBadMove CBadProgram CBadPlan CUnfit CTooLarge CBadEdit) : Fc P w K mg base CX0 4 "greatest" ["shares"] (spGreat K CShare true) := by
  refine fc_of T.d_greatest sc_greatest (fun vs H Q E h => by obtain ⟨l, ws, fs, rfl, hl, hw, ho, hQ⟩ := h; rfl) (fun _ _ _ _ _ _ us hl => match us, hl with | [_], _ => rfl) fun f cdv A outer s H vs Q E hr h => ⟨_, (pss_cons (ps_set (i := 1) sc_greatest.nd rfl (Or.inl rfl) (pe_sh1 (ok_Share T) (passAll passL) (hr.mono (by decide)) (pa_cons pe_int pa_nil)))
 (pss_cons (ps_for PassesOwn.never rfl (piTK K (pv 0)) (pg_name (i := 2) sc_greatest.nd rfl (Or.inl rfl))
 (pss_one (ps_if (pt_not (pt_val (pe_mc (ok_Share_at_most T) T.sh.cl pass0 (hr.mono (by decide)) (pv 2) (pa_cons (pv 1) pa_nil))))
 (pss_one (ps_set (i := 1) sc_greatest.nd rfl (Or.inl rfl) (pv 2)))
 pss_nil)))
 (pss_one (ps_ret (pv 1))))), ?_⟩
  obtain ⟨l, ws, fs, rfl, hl, hw, ho, hQ⟩ := h
  have S := T.sh
  have hl : SqT K H l ws := hl
  have el : ws.length = fs.length := Paired.length hw
  tm_at "go"
  rename_i q H1 tq bq hn hk hq hf
  refine l_tup ws (fun i σ H' => ∃ (p : Addr) (t b : Int) (v : Option V), σ = [some (.ref l), some (.ref p), v] ∧ Kp [] H H' ∧ ShAt CShare H' p t b ∧ Fr.Fr t b (Fr.bestRow (fs.take i)).1 (Fr.bestRow (fs.take i)).2) ?_ ?_ ?_ ?_
  · exact ⟨_, _, _, _, rfl, hk, hq, hf⟩
  · rintro i σ H' _ ⟨_, _, _, _, _, k1, _⟩
    tm_at "sqt"
  · rintro i x σ H' hx ⟨p, t, b, v, rfl, k1, s1, f1⟩
    obtain ⟨f, hf2, a, t', b', rfl, s2, f2⟩ := paired_get hw hx
    have s2 := s2.kp0 k1
    obtain ⟨o1, o2, o3⟩ := ho f (List.mem_of_getElem? hf2)
    obtain ⟨z3, z1, z2⟩ := best_ok (l := fs.take i) fun g hg => ho g (List.mem_of_mem_take hg)
    have b1 := f1.1
    have b2 := f2.1
    have y1 : Bt 200 t := z1.le (f1.absle z3)
    have y2 : Bt 200 b := z2.le (by have := f1.le z3; omega)
    have y3 : Bt 200 t' := o2.le (f2.absle o1)
    have y4 : Bt 200 b' := o3.le (by have := f2.le o1; omega)
    have li := Fr.Fr.le_iff f2 f1 o1 z3
    have bm := Fr.best_more hf2
    tm_at "run"
    · rename_i hc
      refine ⟨_, _, _, _, rfl, k1, s1, ?_⟩
      have : Fr.bestStep (Fr.bestRow (fs.take i)) f = Fr.bestRow (fs.take i) := if_neg (Int.not_lt.mpr (li.mp hc))
      rw [bm, this]
      exact f1
    · rename_i hc
      refine ⟨_, _, _, _, rfl, k1, s2, ?_⟩
      have : Fr.bestStep (Fr.bestRow (fs.take i)) f = f := if_pos (Int.not_le.mp fun z => hc (li.mpr z))
      rw [bm, this]
      exact f2
  · rintro σ H' ⟨p, t, b, v, rfl, k1, s1, f1⟩
    tm_at "run"
    rw [el, List.take_length] at f1
    exact hQ _ _ _ _ k1 s1 f1

theorem ok_power (T : Txt K mg CShare COddsError CBadShare CBadText CBadBook CBadMove CBadProgram CBadPlan CUnfit CTooLarge CBadEdit) : Fc P w K mg base CX0 5 "power" ["share", "exponent"] (spPow CShare) := by
  refine fc_of T.d_power sc_power (fun vs H Q E h => by obtain ⟨p, e, t, b, u, d, n, rfl, s, f, bt, bb, e0, e1, ne, k⟩ := h; rfl) (fun _ _ _ _ _ _ us hl => match us, hl with | [_, _], _ => rfl) fun f cdv A outer s H vs Q E hr h => ⟨_, (pss_cons (ps_set (i := 2) sc_power.nd rfl (Or.inl rfl) (pe_sh1 (ok_Share T) (passAll passL) (hr.mono (by decide)) (pa_cons pe_int pa_nil)))
 (pss_cons (ps_for PassesOwn.never rfl (pi_range1 (by rfl) T.n_range (pa_cons (pv 1) pa_nil)) (pg_name (i := 3) sc_power.nd rfl (Or.inl rfl))
 (pss_one (ps_set (i := 2) sc_power.nd rfl (Or.inl rfl) (pe_op (op_mc (ok_Share___mul__ T) T.sh.sf passL (hr.mono (by decide))) (pv 2) (pv 0)))))
 (pss_one (ps_ret (pv 2))))), ?_⟩
  obtain ⟨p, e, t, b, u, d, n, rfl, s, f, bt, bb, e0, e1, ne, k⟩ := h
  have S := T.sh
  have n4 : n ≤ 3900 := Nat.le_trans (Nat.le_mul_of_pos_right n (Nat.succ_pos _)) ne
  have bt4 := bt.mono n4
  have bb4 := bb.mono n4
  have b1 := f.1
  tm_at "go"
  rename_i q H1 tq bq hn hk hq hf
  obtain ⟨rfl, rfl⟩ := Fr.Fr.self_eq (t := 1) (b := 1) (u := 1) (d := 1) ⟨by decide, by decide, by decide⟩ hf
  refine l_range (fun i σ H' => ∃ (q : Addr) (v : Option V), σ = [some (.ref p), some (.int e), some (.ref q), v] ∧ Kp [] H H' ∧ ShAt CShare H' q (t ^ i) (b ^ i)) ?_ ?_ ?_
  · exact ⟨_, _, rfl, hk, by rw [Int.pow_zero, Int.pow_zero]; exact hq⟩
  · rintro i σ H' hi ⟨q, v, rfl, k1, s1⟩
    have le : n * i + 1 ≤ 3901 := by
      have : n * i ≤ n * (e.toNat + 1) := Nat.mul_le_mul_left n (by omega)
      omega
    have y1 := (bt_pow bt i).mono le
    have y2 := (bt_pow bb i).mono le
    have w1 := (f.pow i).1
    tm_at "run"
    rename_i r H2 x y hn2 k2 sr fr _ _ _
    obtain ⟨rfl, rfl⟩ := f.pow_step i fr
    exact ⟨_, _, rfl, by tm_at "kc", sr⟩
  · rintro σ H' ⟨q, v, rfl, k1, s1⟩
    tm_at "run"
    exact k _ _ k1 s1

end
end My
set_option Elab.async false
set_option linter.all false
set_option autoImplicit false
set_option maxRecDepth 100000
set_option maxHeartbeats 4000000
namespace My
open PySem PySem.Spec PyProof.Rows L2 U
/-! my own steps: rows of tactics, tried from above -/
local macro_rules | `(tactic| tm_at "lk") => `(tactic| first | with_reducible assumption | (with_reducible refine' Kp.get0 ?k1 ?k2; (case k1 => with_reducible assumption); (case k2 => tm_at "lk")) | (with_reducible refine' Kp.get1 ?k1 ?k3 ?k2; (case k1 => with_reducible assumption); (case k3 => tm_at "ne"); (case k2 => tm_at "lk")) | fail)
local macro_rules | `(tactic| tm_at "lp") => `(tactic| first | with_reducible assumption | (with_reducible refine' Pool.kp0 ?k1 ?k2; (case k1 => with_reducible assumption); (case k2 => tm_at "lp")) | (with_reducible refine' Pool.kp1 ?k1 ?k3 ?k2; (case k1 => with_reducible assumption); (case k3 => tm_at "ne"); (case k2 => tm_at "lp")) | fail)
local macro_rules | `(tactic| tm_at "ls") => `(tactic| first | with_reducible assumption | (with_reducible refine' Scr.kp0 ?k1 ?k2; (case k1 => with_reducible assumption); (case k2 => tm_at "ls")) | (with_reducible refine' Scr.kp1 ?k1 ?k3 ?k4 ?k2; (case k1 => with_reducible assumption); (case k3 => with_reducible assumption); (case k4 => tm_at "ls"); (case k2 => tm_at "ls")) | fail)
local macro_rules | `(tactic| tm_at "ne") => `(tactic| first | with_reducible assumption | (with_reducible refine' Ne.symm ?k1; with_reducible assumption) | (with_reducible refine' ne_new ?k1 ?k2; (case k1 => with_reducible assumption); (case k2 => tm_at "lk")) | (with_reducible refine' ne_new' ?k1 ?k2; (case k1 => with_reducible assumption); (case k2 => tm_at "lk")) | (with_reducible refine' Pool.ne ?k1 ?k2; (case k1 => with_reducible assumption); (case k2 => tm_at "lp")) | (with_reducible refine' Ne.symm (Pool.ne ?k1 ?k2); (case k1 => with_reducible assumption); (case k2 => tm_at "lp")) | fail)
local macro_rules | `(tactic| tm_at "kc") => `(tactic| first | with_reducible assumption | with_reducible exact Kp.refl | (with_reducible refine' Kp.trans ?k1 (Kp.of0 ?k2); (case k2 => with_reducible assumption); (case k1 => tm_at "kc")) | (with_reducible refine' Kp.trans ?k1 ?k2; (case k2 => with_reducible assumption); (case k1 => tm_at "kc")) | (with_reducible refine' Kp.low' ?k1 ?k2 ?k3 ?k4; (case k2 => with_reducible assumption); (case k3 => with_reducible assumption); (case k1 => tm_at "kc"); (case k4 => tm_at "kc")) | fail)
local macro_rules | `(tactic| tm_at "sq") => `(tactic| first | (with_reducible refine' sql ?k9; (case k9 => tm_at "lk")) | (with_reducible refine' Scr.sq ?k9; (case k9 => tm_at "ls")) | fail)
local macro_rules | `(tactic| tm_at "sqt") => `(tactic| first | (with_reducible refine' sqt ?k9; (case k9 => tm_at "lk")) | fail)
local macro_rules | `(tactic| tm_at "bt") => `(tactic| first | with_reducible assumption | (with_reducible refine' Bt.mul ?k1 ?k2; (case k1 => tm_at "bt"); (case k2 => tm_at "bt")) | (with_reducible refine' Bt.addM ?k1 ?k2; (case k1 => tm_at "bt"); (case k2 => tm_at "bt")) | (with_reducible refine' Bt.subM ?k1 ?k2; (case k1 => tm_at "bt"); (case k2 => tm_at "bt")) | (with_reducible refine' Bt.neg ?k1; (case k1 => tm_at "bt")) | fail)
local macro_rules | `(tactic| tm_at "bm") => `(tactic| first | with_reducible assumption | (with_reducible refine' Bt.mono ?k1 ?k2; (case k1 => with_reducible assumption); (case k2 => k_dflt decide)) | fail)
local macro_rules | `(tactic| tm_at "side") => `(tactic| first | with_reducible assumption | (with_reducible refine' Bt.cmul ?k1 ?k2 ?k3; (case k1 => tm_at "bt"); (case k2 => tm_at "bt"); (case k3 => k_dflt decide)) | (with_reducible refine cmul_of ?k1; (case k1 => omega)) | (with_reducible refine cpow_of ?k1; (case k1 => omega)) | (with_reducible refine cdivw_of ?k1; (case k1 => omega)) | (with_reducible refine cdivw_big ?k1; (case k1 => omega)) | (with_reducible refine cmulx_of ?k1; (case k1 => omega)) | omega | fail)
local macro_rules | `(tactic| tm_at "step") => `(tactic| first
  | with_reducible refine u_op ?_
  | (with_reducible refine' u_var ?k1 ?_; (case k1 => k_dflt rfl))
  | with_reducible refine u_c ?_
  | with_reducible refine u_I0 ?_
  | with_reducible refine u_seq ?_
  | with_reducible refine u_asg ?_
  | with_reducible refine g_name ?_
  | with_reducible refine u_cb ?_
  | with_reducible refine u_cons ?_
  | with_reducible refine u_nil ?_
  | (with_reducible refine' u_pow ?k1 ?k2 ?_; (case k1 => k_dflt (tm_at "side")); (case k2 => (conv => lhs; simp only [Int.reduceToNat, Int.reducePow]) <;> rfl))
  | (with_reducible refine' u_I ?k1 ?_; (case k1 => k_dflt (tm_at "side")))
  | with_reducible refine u_int1 ?_
  | with_reducible refine u_intB ?_
  | with_reducible refine u_if ?_
  | with_reducible refine u_test ?_
  | with_reducible refine u_tb ?_
  | with_reducible refine u_tB ?_
  | with_reducible refine u_eqI ?_
  | with_reducible refine u_neI ?_
  | with_reducible refine u_eqB ?_
  | with_reducible refine u_and ?_
  | with_reducible refine u_or ?_
  | with_reducible refine u_not ?_
  | with_reducible refine u_andV ?_
  | with_reducible refine u_orV ?_
  | with_reducible refine u_notV ?_
  | with_reducible refine br_t ?_
  | with_reducible refine br_f ?_
  | with_reducible refine br_nt ?_
  | with_reducible refine br_nf ?_
  | with_reducible refine br_n ?_
  | with_reducible refine u_ret ?_
  | with_reducible refine u_next ?_
  | with_reducible refine u_drop ?_
  | with_reducible refine u_un ?_
  | with_reducible refine u_U ?_
  | with_reducible refine u_call ?_
  | with_reducible refine u_fldN ?_
  | with_reducible refine g_sub ?_
  | with_reducible refine g_cons ?_
  | with_reducible refine g_nil ?_
  | with_reducible refine u_tpar ?_
  | (with_reducible refine u_absL ?_; intro m_ h1_ h2_)
  | (with_reducible refine u_maxL ?_; intro m_ h1_ h2_ h3_)
  | (with_reducible refine u_minL ?_; intro m_ h1_ h2_ h3_)
  | with_reducible refine u_gcd ?_
  | with_reducible refine u_isi_ii ?_
  | with_reducible refine u_isi_ib ?_
  | with_reducible refine u_isi_bb ?_
  | with_reducible refine u_tupN ?_
  | with_reducible refine u_lstN ?_
  | (with_reducible refine' u_ixL ?k1 ?k2 ?_; (case k1 => tm_at "sq"); (case k2 => first | with_reducible assumption | k_dflt rfl))
  | (with_reducible refine' u_ixT ?k1 ?k2 ?_; (case k1 => tm_at "sqt"); (case k2 => k_dflt rfl))
  | (with_reducible refine' g_tup ?k1 ?k2 ?_; (case k1 => tm_at "sqt"); (case k2 => k_dflt rfl))
  | (with_reducible refine' u_lenL ?k1 ?_; (case k1 => tm_at "sq"))
  | (with_reducible refine' u_lenT ?k1 ?_; (case k1 => tm_at "sqt"))
  | with_reducible refine u_for ?_
  | with_reducible refine u_iL ?_
  | with_reducible refine u_iT ?_
  | with_reducible refine u_r1 ?_
  | with_reducible refine u_r2 ?_
  | (with_reducible refine' u_iLq ?k1 ?_; (case k1 => tm_at "sq"))
  | (with_reducible refine' u_iTq ?k1 ?_; (case k1 => tm_at "sqt"))
  | (with_reducible refine' u_r1q ?k1 ?_; (case k1 => (constructor <;> omega)))
  | (with_reducible refine' u_r2q ?k1 ?_; (case k1 => (refine ⟨?_, ?_, ?_, ?_⟩ <;> omega)))
  | with_reducible refine u_lc ?_
  | with_reducible refine u_yes ?_
  | (with_reducible refine endQ ?k1 ?_; (case k1 => k_dflt rfl))
  | with_reducible refine u_meth ?_
  | with_reducible refine u_callS ?_
  | with_reducible refine u_bm ?_
  | (with_reducible refine' bm_list ?k1 ?_; (case k1 => tm_at "lk"))
  | (with_reducible refine' u_append ?k1 ?k2 ?_; (case k1 => tm_at "lk"); (case k2 => omega); intro H_ hk_ ho_)
  | (with_reducible refine' appE ?k1 ?k2 ?_; (case k1 => tm_at "lk"); (case k2 => omega); intro H_ hk_ ho_)
  | with_reducible refine u_sl ?_
  | with_reducible refine u_noPart ?_
  | with_reducible refine u_part ?_
  | with_reducible refine u_intq ?_
  | (with_reducible refine' u_slL ?k1 ?_; (case k1 => tm_at "sq"); intro p_ H_ hn_ hk_ ho_)
  | (with_reducible refine' n_tup ?k1 ?_; (case k1 => k_dflt (exact Nat.le_of_ble_eq_true rfl)); intro p_ H_ hn_ hk_ ho_)
  | (with_reducible refine' n_lst ?k1 ?_; (case k1 => k_dflt (exact Nat.le_of_ble_eq_true rfl)); intro p_ H_ hn_ hk_ ho_)
  | (with_reducible refine' s_list ?k1 ?k2 ?_; (case k1 => tm_at "lk"); (case k2 => k_dflt rfl); intro H_ hk_ ho_)
  | (with_reducible refine br_d ?_ ?_ <;> intro hc_) | fail)
local macro_rules | `(tactic| tm_at "run") => `(tactic| repeat' tm_at "step")
local macro_rules | `(tactic| tm_at "go") => `(tactic| ((try dsimp only [cxOf, Cx.nox, Cx.wish]); tm_at "run"))

local macro_rules | `(tactic| tm_at "sh") => `(tactic| first | with_reducible assumption | (with_reducible refine' ShAt.kp0 ?k1 ?k2; (case k1 => with_reducible assumption); (case k2 => tm_at "sh")) | (with_reducible refine' ShAt.kp1 ?k1 ?k3 ?k2; (case k1 => with_reducible assumption); (case k3 => tm_at "ne"); (case k2 => tm_at "sh")) | fail)
local macro_rules | `(tactic| tm_at "step") => `(tactic| first | (with_reducible refine' fld_top (by assumption) ?k1 ?_; (case k1 => tm_at "sh")) | fail)
local macro_rules | `(tactic| tm_at "step") => `(tactic| first | (with_reducible refine' fld_bottom (by assumption) ?k1 ?_; (case k1 => tm_at "sh")) | fail)
local macro_rules | `(tactic| tm_at "step") => `(tactic| first | (with_reducible refine' isi_share (by assumption) ?k1 ?_; (case k1 => tm_at "sh")) | fail)
local macro_rules | `(tactic| tm_at "step") => `(tactic| first | with_reducible refine u_newI ?_ | fail)
local macro_rules | `(tactic| tm_at "step") => `(tactic| first | with_reducible refine u_newK ?_ | fail)
local macro_rules | `(tactic| tm_at "step") => `(tactic| first | with_reducible refine newK rfl rfl ?_ | fail)
local macro_rules | `(tactic| tm_at "step") => `(tactic| first | with_reducible refine u_sfld ?_ | fail)
local macro_rules | `(tactic| tm_at "b1") => `(tactic| first | with_reducible assumption | omega)
local macro_rules | `(tactic| tm_at "step") => `(tactic| first | (with_reducible refine' k_opA ?k1 ?k2 ?k3 ?k4 ?k5 ?k6 ?k7 ?k8 ?k9 ?k10 ?_; (case k1 => tm_at "sh"); (case k2 => tm_at "sh"); (case k3 => tm_at "b1"); (case k4 => tm_at "b1"); (case k5 => with_reducible assumption); (case k6 => with_reducible assumption); (case k7 => with_reducible assumption); (case k8 => with_reducible assumption); (case k9 => k_dflt decide); (case k10 => k_dflt decide); intro r_ H_ x_ y_ hn_ hk_ hs_ hf_ hy_ hbx_ hby_) | fail)
local macro_rules | `(tactic| tm_at "step") => `(tactic| first | (with_reducible refine' k_opS ?k1 ?k2 ?k3 ?k4 ?k5 ?k6 ?k7 ?k8 ?k9 ?k10 ?_; (case k1 => tm_at "sh"); (case k2 => tm_at "sh"); (case k3 => tm_at "b1"); (case k4 => tm_at "b1"); (case k5 => with_reducible assumption); (case k6 => with_reducible assumption); (case k7 => with_reducible assumption); (case k8 => with_reducible assumption); (case k9 => k_dflt decide); (case k10 => k_dflt decide); intro r_ H_ x_ y_ hn_ hk_ hs_ hf_ hy_ hbx_ hby_) | fail)
local macro_rules | `(tactic| tm_at "step") => `(tactic| first | (with_reducible refine' k_opM ?k1 ?k2 ?k3 ?k4 ?k5 ?k6 ?k7 ?k8 ?k9 ?k10 ?_; (case k1 => tm_at "sh"); (case k2 => tm_at "sh"); (case k3 => tm_at "b1"); (case k4 => tm_at "b1"); (case k5 => with_reducible assumption); (case k6 => with_reducible assumption); (case k7 => with_reducible assumption); (case k8 => with_reducible assumption); (case k9 => k_dflt decide); (case k10 => k_dflt decide); intro r_ H_ x_ y_ hn_ hk_ hs_ hf_ hy_ hbx_ hby_) | fail)
local macro_rules | `(tactic| tm_at "step") => `(tactic| first | (with_reducible refine' k_draw ?k1 ?k2 ?_; (case k1 => tm_at "lp"); (case k2 => k_dflt omega); intro r_ H_ h0_ h1_ hk_ hp_) | fail)
local macro_rules | `(tactic| tm_at "step") => `(tactic| first | with_reducible refine k_int ?_ | fail)
local macro_rules | `(tactic| tm_at "step") => `(tactic| first | (with_reducible refine' k_pool ?k1 ?k2 ?_; (case k1 => tm_at "ls"); (case k2 => k_dflt (tm_at "side")); intro p_ H_ hn_ hk_ hp_) | fail)
local macro_rules | `(tactic| tm_at "step") => `(tactic| first | (with_reducible refine' k_size ?k1 ?_; (case k1 => tm_at "lp"); intro r_ H_ h0_ h1_ hk_ hp_) | fail)
local macro_rules | `(tactic| tm_at "step") => `(tactic| first | (with_reducible refine' k_frac ?k1 ?_; (case k1 => tm_at "lp"); intro p_ u_ d_ H_ hk_ hp_ hf_) | fail)
local macro_rules | `(tactic| tm_at "ft") => `(tactic| first | with_reducible assumption | (with_reducible refine' FrT.kp0 ?k1 ?k2; (case k1 => with_reducible assumption); (case k2 => tm_at "ft")) | (with_reducible refine' FrT.kp1 ?k1 ?k3 ?k2; (case k1 => with_reducible assumption); (case k3 => tm_at "ne"); (case k2 => tm_at "ft")) | fail)
local macro_rules | `(tactic| tm_at "lk") => `(tactic| first | (with_reducible refine' FrT.e ?k1; (case k1 => tm_at "ft")) | fail)
local macro_rules | `(tactic| tm_at "ne") => `(tactic| first | (with_reducible refine' FrT.ne ?k1 ?k2; (case k1 => with_reducible assumption); (case k2 => tm_at "lp")) | fail)
local macro_rules | `(tactic| tm_at "step") => `(tactic| first | (with_reducible refine' k_second ?k1 ?k2 ?k3 ?_; (case k1 => tm_at "lp"); (case k2 => tm_at "ft"); (case k3 => tm_at "ft"); intro p_ u_ d_ H_ hk_ hp_ hf_) | fail)
local macro_rules | `(tactic| tm_at "fr") => `(tactic| first | with_reducible assumption | (with_reducible refine' FrRow.kp0 ?k1 ?k2; (case k1 => with_reducible assumption); (case k2 => tm_at "fr")) | (with_reducible refine' FrRow.kpP ?k1 ?k3 ?k2; (case k1 => with_reducible assumption); (case k3 => tm_at "lp"); (case k2 => tm_at "fr")) | (with_reducible refine' FrRow.kpL ?k1 ?k3 ?k2; (case k1 => with_reducible assumption); (case k3 => tm_at "lk"); (case k2 => tm_at "fr")) | fail)
local macro_rules | `(tactic| tm_at "sr") => `(tactic| first | with_reducible assumption | (with_reducible refine' ShRow.kp0 ?k1 ?k2; (case k1 => with_reducible assumption); (case k2 => tm_at "sr")) | (with_reducible refine' ShRow.kpL ?k1 ?k3 ?k2; (case k1 => with_reducible assumption); (case k3 => tm_at "lk"); (case k2 => tm_at "sr")) | fail)
local macro_rules | `(tactic| tm_at "sq") => `(tactic| first | with_reducible assumption | (with_reducible refine' sq_kp0 ?k1 ?k2; (case k1 => with_reducible assumption); (case k2 => with_reducible assumption)) | fail)
local macro_rules | `(tactic| tm_at "sqt") => `(tactic| first | with_reducible assumption | (with_reducible refine' sqt_kp0 ?k1 ?k2; (case k1 => with_reducible assumption); (case k2 => with_reducible assumption)) | fail)
local macro_rules | `(tactic| tm_at "ft") => `(tactic| first | (with_reducible refine' FrT.kpL ?k1 ?k3 ?k2; (case k1 => with_reducible assumption); (case k3 => tm_at "lk"); (case k2 => tm_at "ft")) | fail)
local macro_rules | `(tactic| tm_at "sh") => `(tactic| first | (with_reducible refine' ShAt.kpL ?k1 ?k3 ?k2; (case k1 => with_reducible assumption); (case k3 => tm_at "lk"); (case k2 => tm_at "sh")) | fail)
local macro_rules | `(tactic| tm_at "step") => `(tactic| first | (with_reducible refine' meth_sh ?k1 ?k2 ?k3 ?_; (case k1 => tm_at "sh"); (case k2 => k_dflt (decide +kernel)); (case k3 => k_dflt (decide +kernel))) | fail)
local macro_rules | `(tactic| tm_at "step") => `(tactic| first | (with_reducible refine' k_at ?k0 ?k1 ?k2 ?k3 ?k4 ?k5 ?k6 ?_; (case k0 => k_dflt rfl); (case k1 => tm_at "sh"); (case k2 => tm_at "sh"); (case k3 => tm_at "bm"); (case k4 => tm_at "bm"); (case k5 => tm_at "bm"); (case k6 => tm_at "bm")) | fail)
local macro_rules | `(tactic| tm_at "step") => `(tactic| first | (with_reducible refine' k_share ?k1 ?k2 ?_; (case k1 => tm_at "b1"); (case k2 => tm_at "bm"); intro p_ H_ t_ b_ hn_ hk_ hs_ hf_) | fail)
local macro_rules | `(tactic| tm_at "step") => `(tactic| first | (with_reducible refine' k_share1 ?_; intro p_ H_ t_ b_ hn_ hk_ hs_ hf_) | fail)
def ab (f : Int × Int) : Int × Int := ((f.1.natAbs : Int), f.2)
theorem bt_abs {n : Nat} {x : Int} (h : Bt n x) : Bt n (x.natAbs : Int) := by
  unfold Bt at h ⊢
  rw [Int.natAbs_natCast]
  exact h
/-! ## promises of the law's own defs -/
def LowV (H : Hp) (v : V) (f : Int × Int) : Prop := ∃ p t b, v = .ref p ∧ H p = some (.tup [.int t, .int b]) ∧ Fr.Fr t b f.1 f.2
def LowRow (H : Hp) (vs : List V) (fs : List (Int × Int)) : Prop := Paired (LowV H) vs fs
theorem LowRow.kp0 {H H' : Hp} {vs : List V} {fs : List (Int × Int)} (k : Kp [] H H') (h : LowRow H vs fs) : LowRow H' vs fs := paired_map h fun _ _ ⟨p, t, b, e, s, f⟩ => ⟨p, t, b, e, k.get0 s, f⟩
theorem LowRow.kpL {H H' : Hp} {q : Addr} {xs vs : List V} {fs : List (Int × Int)} (k : Kp [q] H H') (hq : H q = some (.lst xs)) (h : LowRow H vs fs) : LowRow H' vs fs := paired_map h fun _ _ ⟨p, t, b, e, s, f⟩ => ⟨p, t, b, e, k.get1 (ne_of s hq (by intro z; cases z)) s, f⟩
local macro_rules | `(tactic| tm_at "lr") => `(tactic| first | with_reducible assumption | (with_reducible refine' LowRow.kp0 ?k1 ?k2; (case k1 => with_reducible assumption); (case k2 => tm_at "lr")) | (with_reducible refine' LowRow.kpL ?k1 ?k3 ?k2; (case k1 => with_reducible assumption); (case k3 => tm_at "lk"); (case k2 => tm_at "lr")) | fail)
def spRow : Sp := fun vs H Q _ => ∃ (a : Addr), vs = [.ref a] ∧ Pool H a ∧ ∀ p ws fs H', Kp [a] H H' → Pool H' a → H' p = some (.lst ws) → FrRow H' ws fs → fs.length ≤ 6 → Q (.ref p) H'
def spLow : Sp := fun vs H Q _ => ∃ (u d : Int), vs = [.int u, .int d] ∧ 1 ≤ d ∧ Bt 8500 d ∧ ∀ p H' t b, H p = none → Kp [] H H' → H' p = some (.tup [.int t, .int b]) → Fr.Fr t b u d → Q (.ref p) H'
def spFields (C : Addr) : Sp := fun vs H Q _ => ∃ (p q : Addr) (t b t' b' : Int), vs = [.ref p, .ref q] ∧ ShAt C H p t b ∧ H q = some (.tup [.int t', .int b']) ∧ (t = t' ∧ b = b') ∧ Q (.bl true) H
def spAns : Sp := fun vs H Q _ => ∃ x y : Bool, vs = [.bl x, .bl y] ∧ x = y ∧ Q (.bl true) H
def spNoMean : Sp := fun vs H Q _ => ∃ x : Bool, vs = [.bl x] ∧ ∀ H', Kp [] H H' → Q (.bl true) H'
def spRows : Sp := fun vs H Q _ => ∃ (p q : Addr) (ws zs : List V) (fs : List (Int × Int)), vs = [.ref p, .ref q] ∧ H p = some (.lst ws) ∧ FrRow H ws fs ∧ fs.length ≤ 6 ∧ H q = some (.lst zs) ∧ LowRow H zs fs ∧ ∀ H', Kp [] H H' → Q (.bl true) H'
def spKept (C : Addr) : Sp := fun vs H Q _ => ∃ (p q : Addr) (ws zs : List V) (fs : List (Int × Int)), vs = [.ref p, .ref q] ∧ H p = some (.lst ws) ∧ ShRow C H ws fs ∧ (∀ f ∈ fs, OkF f) ∧ fs.length ≤ 6 ∧ H q = some (.lst zs) ∧ LowRow H zs fs ∧ Q (.bl true) H
def spPowDue : Sp := fun vs H Q _ => ∃ (p : Addr) (t b e : Int) (n : Nat), vs = [.ref p, .int e] ∧ H p = some (.tup [.int t, .int b]) ∧ Bt n t ∧ Bt n b ∧ 0 ≤ e ∧ e ≤ 100 ∧ n * (e.toNat + 1) ≤ 3900 ∧ ∀ q H', H q = none → Kp [] H H' → H' q = some (.tup [.int (t ^ e.toNat), .int (b ^ e.toNat)]) → Q (.ref q) H'
def spTwo (C : Addr) : Sp := fun vs H Q _ => ∃ (p q f g : Addr) (t b t' b' u d u' d' : Int), vs = [.ref p, .ref q, .ref f, .ref g] ∧ ShAt C H p t b ∧ ShAt C H q t' b' ∧ FrT H f u d ∧ FrT H g u' d' ∧ Fr.Fr t b u d ∧ Fr.Fr t' b' u' d' ∧ ∀ H', Kp [] H H' → Q (.bl true) H'
def spLaw (K : PySem.W.Frag) : Sp := fun vs H Q _ => ∃ (a : Addr) (ns : List Int), vs = [.ref a] ∧ Scr K H a ns ∧ ∀ H', Q (.bl true) H'
section
variable {H : Hp} {Q : VK} {E : XK} {C CB : Addr} {K : PySem.W.Frag}
theorem k_row {a : Addr} {vs : List V} (hv : vs = [.ref a]) (hp : Pool H a) (k : ∀ p ws fs H', Kp [a] H H' → Pool H' a → H' p = some (.lst ws) → FrRow H' ws fs → fs.length ≤ 6 → Q (.ref p) H') : spRow vs H Q E := ⟨a, hv, hp, k⟩
theorem k_low {u d : Int} {vs : List V} (hv : vs = [.int u, .int d]) (d1 : 1 ≤ d) (bd : Bt 8500 d) (k : ∀ p H' t b, H p = none → Kp [] H H' → H' p = some (.tup [.int t, .int b]) → Fr.Fr t b u d → Q (.ref p) H') : spLow vs H Q E := ⟨u, d, hv, d1, bd, k⟩
theorem k_fields {p q : Addr} {t b t' b' : Int} {vs : List V} (hv : vs = [.ref p, .ref q]) (s : ShAt C H p t b) (l : H q = some (.tup [.int t', .int b'])) (e : t = t' ∧ b = b') (k : Q (.bl true) H) : spFields C vs H Q E := ⟨p, q, t, b, t', b', hv, s, l, e, k⟩
theorem k_ans {x y : Bool} {vs : List V} (hv : vs = [.bl x, .bl y]) (e : x = y) (k : Q (.bl true) H) : spAns vs H Q E := ⟨x, y, hv, e, k⟩
theorem k_noMean {x : Bool} {vs : List V} (hv : vs = [.bl x]) (k : ∀ H', Kp [] H H' → Q (.bl true) H') : spNoMean vs H Q E := ⟨x, hv, k⟩
theorem k_rows {p q : Addr} {ws zs : List V} {fs : List (Int × Int)} {vs : List V} (hv : vs = [.ref p, .ref q]) (h1 : H p = some (.lst ws)) (h3 : H q = some (.lst zs)) (h2 : FrRow H ws fs) (h4 : LowRow H zs fs) (h6 : fs.length ≤ 6) (k : ∀ H', Kp [] H H' → Q (.bl true) H') : spRows vs H Q E := ⟨p, q, ws, zs, fs, hv, h1, h2, h6, h3, h4, k⟩
theorem k_kept {p q : Addr} {ws zs : List V} {fs : List (Int × Int)} {vs : List V} (hv : vs = [.ref p, .ref q]) (h1 : H p = some (.lst ws)) (h3 : H q = some (.lst zs)) (h2 : ShRow C H ws fs) (h4 : LowRow H zs fs) (ho : ∀ f ∈ fs, OkF f) (h6 : fs.length ≤ 6) (k : Q (.bl true) H) : spKept C vs H Q E := ⟨p, q, ws, zs, fs, hv, h1, h2, ho, h6, h3, h4, k⟩
theorem k_powDue {p : Addr} {t b e : Int} {n : Nat} {vs : List V} (hv : vs = [.ref p, .int e]) (h : H p = some (.tup [.int t, .int b])) (bt : Bt n t) (bb : Bt n b) (s : 0 ≤ e ∧ e ≤ 100 ∧ n * (e.toNat + 1) ≤ 3900) (k : ∀ q H', H q = none → Kp [] H H' → H' q = some (.tup [.int (t ^ e.toNat), .int (b ^ e.toNat)]) → Q (.ref q) H') : spPowDue vs H Q E := ⟨p, t, b, e, n, hv, h, bt, bb, s.1, s.2.1, s.2.2, k⟩
theorem k_power {p : Addr} {e t b u d : Int} {n : Nat} {vs : List V} (hv : vs = [.ref p, .int e]) (s : ShAt C H p t b) (f : Fr.Fr t b u d) (bt : Bt n t) (bb : Bt n b) (z : 0 ≤ e ∧ e ≤ 100 ∧ n * (e.toNat + 1) ≤ 3900) (k : ∀ q H', Kp [] H H' → ShAt C H' q (t ^ e.toNat) (b ^ e.toNat) → Q (.ref q) H') : spPow C vs H Q E := ⟨p, e, t, b, u, d, n, hv, s, f, bt, bb, z.1, z.2.1, z.2.2, k⟩
theorem k_two {p q f g : Addr} {t b t' b' u d u' d' : Int} {vs : List V} (hv : vs = [.ref p, .ref q, .ref f, .ref g]) (s : ShAt C H p t b) (s' : ShAt C H q t' b') (h : FrT H f u d) (h' : FrT H g u' d') (a : Fr.Fr t b u d) (a' : Fr.Fr t' b' u' d') (k : ∀ H', Kp [] H H' → Q (.bl true) H') : spTwo C vs H Q E :=
  ⟨p, q, f, g, t, b, t', b', u, d, u', d', hv, s, s', h, h', a, a', k⟩
theorem k_mean {l : Addr} {ws : List V} {fs : List (Int × Int)} {vs : List V} (hv : vs = [.ref l]) (hl : SqL K H l ws) (hr : ShRow C H ws fs) (ho : ∀ f ∈ fs, OkF f) (h6 : fs.length ≤ 6) (hn : fs ≠ []) (k : ∀ p t b H', Kp [] H H' → ShAt C H' p t b → Fr.Fr t b (Fr.sumRow fs).1 ((Fr.sumRow fs).2 * fs.length) → Q (.ref p) H') : spMean K C CB false vs H Q E := ⟨l, ws, fs, hv, hl, hr, ho, h6, fun z => absurd z hn, fun _ => k⟩
theorem k_meanT {l : Addr} {ws : List V} {fs : List (Int × Int)} {vs : List V} (hv : vs = [.ref l]) (hl : SqT K H l ws) (hr : ShRow C H ws fs) (ho : ∀ f ∈ fs, OkF f) (h6 : fs.length ≤ 6) (hn : fs ≠ []) (k : ∀ p t b H', Kp [] H H' → ShAt C H' p t b → Fr.Fr t b (Fr.sumRow fs).1 ((Fr.sumRow fs).2 * fs.length) → Q (.ref p) H') : spMean K C CB true vs H Q E := ⟨l, ws, fs, hv, hl, hr, ho, h6, fun z => absurd z hn, fun _ => k⟩
theorem k_meanBad {l : Addr} {vs : List V} (hv : vs = [.ref l]) (hl : SqL K H l []) (k : E (.ref CB) none H) : spMean K C CB false vs H Q E := ⟨l, [], [], hv, hl, .nil, (fun _ h => by cases h), Nat.zero_le _, (fun _ => k), fun z => absurd rfl z⟩
theorem k_meanBadT {l : Addr} {vs : List V} (hv : vs = [.ref l]) (hl : SqT K H l []) (k : E (.ref CB) none H) : spMean K C CB true vs H Q E := ⟨l, [], [], hv, hl, .nil, (fun _ h => by cases h), Nat.zero_le _, (fun _ => k), fun z => absurd rfl z⟩
theorem k_great {l : Addr} {ws : List V} {fs : List (Int × Int)} {vs : List V} (hv : vs = [.ref l]) (hl : SqL K H l ws) (hr : ShRow C H ws fs) (ho : ∀ f ∈ fs, OkF f) (k : ∀ p t b H', Kp [] H H' → ShAt C H' p t b → Fr.Fr t b (Fr.bestRow fs).1 (Fr.bestRow fs).2 → Q (.ref p) H') : spGreat K C false vs H Q E := ⟨l, ws, fs, hv, hl, hr, ho, k⟩
theorem k_greatT {l : Addr} {ws : List V} {fs : List (Int × Int)} {vs : List V} (hv : vs = [.ref l]) (hl : SqT K H l ws) (hr : ShRow C H ws fs) (ho : ∀ f ∈ fs, OkF f) (k : ∀ p t b H', Kp [] H H' → ShAt C H' p t b → Fr.Fr t b (Fr.bestRow fs).1 (Fr.bestRow fs).2 → Q (.ref p) H') : spGreat K C true vs H Q E := ⟨l, ws, fs, hv, hl, hr, ho, k⟩
end
local macro_rules | `(tactic| tm_at "step") => `(tactic| first | (with_reducible refine' k_row ?k0 ?k1 ?_; (case k0 => k_dflt rfl); (case k1 => tm_at "lp"); intro p_ ws_ fs_ H_ hk_ hp_ ho_ hf_ h6_) | fail)
local macro_rules | `(tactic| tm_at "step") => `(tactic| first | (with_reducible refine' k_low ?k0 ?k1 ?k2 ?_; (case k0 => k_dflt rfl); (case k1 => tm_at "b1"); (case k2 => tm_at "bm"); intro p_ H_ t_ b_ hn_ hk_ ho_ hf_) | fail)
local macro_rules | `(tactic| tm_at "step") => `(tactic| first | (with_reducible refine' k_fields ?k0 ?k1 ?k2 ?k3 ?_; (case k0 => k_dflt rfl); (case k1 => tm_at "sh"); (case k2 => tm_at "lk"); (case k3 => first | with_reducible assumption | exact ⟨rfl, rfl⟩)) | fail)
local macro_rules | `(tactic| tm_at "step") => `(tactic| first | (with_reducible refine' k_ans ?k0 ?k1 ?_; (case k0 => k_dflt rfl); (case k1 => first | with_reducible assumption | with_reducible rfl)) | fail)
local macro_rules | `(tactic| tm_at "step") => `(tactic| first | (with_reducible refine' k_noMean ?k0 ?_; (case k0 => k_dflt rfl); intro H_ hk_) | fail)
local macro_rules | `(tactic| tm_at "step") => `(tactic| first | (with_reducible refine' k_rows ?k0 ?k1 ?k2 ?k3 ?k4 ?k5 ?_; (case k0 => k_dflt rfl); (case k1 => tm_at "lk"); (case k2 => tm_at "lk"); (case k3 => tm_at "fr"); (case k4 => tm_at "lr"); (case k5 => with_reducible assumption); intro H_ hk_) | fail)
local macro_rules | `(tactic| tm_at "step") => `(tactic| first | (with_reducible refine' k_kept ?k0 ?k1 ?k2 ?k3 ?k4 ?k5 ?k6 ?_; (case k0 => k_dflt rfl); (case k1 => tm_at "lk"); (case k2 => tm_at "lk"); (case k3 => tm_at "sr"); (case k4 => tm_at "lr"); (case k5 => with_reducible assumption); (case k6 => with_reducible assumption)) | fail)
local macro_rules | `(tactic| tm_at "step") => `(tactic| first | (with_reducible refine' k_powDue ?k0 ?k1 ?k2 ?k3 ?k4 ?_; (case k0 => k_dflt rfl); (case k1 => tm_at "lk"); (case k2 => with_reducible assumption); (case k3 => with_reducible assumption); (case k4 => with_reducible assumption); intro p_ H_ hn_ hk_ ho_) | fail)
local macro_rules | `(tactic| tm_at "step") => `(tactic| first | (with_reducible refine' k_power ?k0 ?k1 ?k2 ?k3 ?k4 ?k5 ?_; (case k0 => k_dflt rfl); (case k1 => tm_at "sh"); (case k2 => with_reducible assumption); (case k3 => with_reducible assumption); (case k4 => with_reducible assumption); (case k5 => with_reducible assumption); intro p_ H_ hk_ hs_) | fail)
local macro_rules | `(tactic| tm_at "step") => `(tactic| first | (with_reducible refine' k_two ?k0 ?k1 ?k2 ?k3 ?k4 ?k5 ?k6 ?_; (case k0 => k_dflt rfl); (case k1 => tm_at "sh"); (case k2 => tm_at "sh"); (case k3 => tm_at "ft"); (case k4 => tm_at "ft"); (case k5 => with_reducible assumption); (case k6 => with_reducible assumption); intro H_ hk_) | fail)
local macro_rules | `(tactic| tm_at "step") => `(tactic| first | (with_reducible refine' k_mean ?k0 ?k1 ?k2 ?k3 ?k4 ?k5 ?_; (case k0 => k_dflt rfl); (case k1 => tm_at "sq"); (case k2 => tm_at "sr"); (case k3 => with_reducible assumption); (case k4 => with_reducible assumption); (case k5 => with_reducible assumption); intro p_ t_ b_ H_ hk_ hs_ hf_) | fail)
local macro_rules | `(tactic| tm_at "step") => `(tactic| first | (with_reducible refine' k_meanT ?k0 ?k1 ?k2 ?k3 ?k4 ?k5 ?_; (case k0 => k_dflt rfl); (case k1 => tm_at "sqt"); (case k2 => tm_at "sr"); (case k3 => with_reducible assumption); (case k4 => with_reducible assumption); (case k5 => with_reducible assumption); intro p_ t_ b_ H_ hk_ hs_ hf_) | fail)
local macro_rules | `(tactic| tm_at "step") => `(tactic| first | (with_reducible refine' k_great ?k0 ?k1 ?k2 ?k3 ?_; (case k0 => k_dflt rfl); (case k1 => tm_at "sq"); (case k2 => tm_at "sr"); (case k3 => with_reducible assumption); intro p_ t_ b_ H_ hk_ hs_ hf_) | fail)
local macro_rules | `(tactic| tm_at "step") => `(tactic| first | (with_reducible refine' k_greatT ?k0 ?k1 ?k2 ?k3 ?_; (case k0 => k_dflt rfl); (case k1 => tm_at "sqt"); (case k2 => tm_at "sr"); (case k3 => with_reducible assumption); intro p_ t_ b_ H_ hk_ hs_ hf_) | fail)
local macro_rules | `(tactic| tm_at "step") => `(tactic| first | (with_reducible refine' tupOf_l ?k1 ?_; (case k1 => tm_at "sq"); intro p_ H_ hn_ hk_ ho_) | fail)

section
variable {P : Program} {w : World} {K : PySem.W.Frag} {mg : Str → Option Value} {base : Heap} {CShare COddsError CBadShare CBadText CBadBook CBadMove CBadProgram CBadPlan CUnfit CTooLarge CBadEdit : Addr}
theorem ok_l_second (T : Txt K mg CShare COddsError CBadShare CBadText CBadBook CBadMove CBadProgram CBadPlan CUnfit CTooLarge CBadEdit) : Fc P w K mg base CX0 2 "_law_second" ["pool", "first", "free"] (spSecond) := by
  refine fc_of T.d_l_second sc_l_second (fun vs H Q E h => by obtain ⟨a, f, g, u, d, u', d', rfl, hp, h1, h2, k⟩ := h; rfl) (fun _ _ _ _ _ _ us hl => match us, hl with | [_, _, _], _ => rfl) fun f cdv A outer s H vs Q E hr h => ⟨_, (pss_cons (ps_asg (pv 1) (pgTK K 2 (by rfl) (pgs_cons (pg_name (i := 3) sc_l_second.nd rfl (Or.inl rfl)) (pgs_cons (pg_name (i := 4) sc_l_second.nd rfl (Or.inl rfl)) pgs_nil))))
 (pss_cons (ps_set (i := 5) sc_l_second.nd rfl (Or.inl rfl) (pe_fc (ok_l_draw T) pass0 (hr.mono (by decide)) (pa_cons (pv 0) (pa_cons pe_int pa_nil))))
 (pss_cons (ps_if (PW.pt (pw_and (pt_cmpR op_eq (pv 5) pe_int (nomark _)) (pw_and1 (pt_cmpR op_lt (pe_callB (c_max2 rfl) (by rfl) T.n_max b_max (pa_cons (pe_callB c_abs (by rfl) T.n_abs b_abs (pa_cons (pv 3) pa_nil)) (pa_cons (pv 4) pa_nil))) (pe_op op_pow pe_int pe_int) (nomark _)))))
 (pss_one (ps_ret (pe_tup (pa_cons (pe_op op_mulX pe_int (pv 3)) (pa_cons (pe_op op_mulX pe_int (pv 4)) pa_nil)))))
 pss_nil)
 (pss_cons (ps_if (PW.pt (pw_and (pt_cmpR op_eq (pv 5) pe_int (nomark _)) (pw_and1 (pt_cmpR op_gt (pv 3) pe_int (nomark _)))))
 (pss_one (ps_ret (pe_tup (pa_cons (pe_op op_sub (pv 3) pe_int) (pa_cons (pv 4) pa_nil)))))
 pss_nil)
 (pss_cons (ps_if (pt_cmpR op_eq (pv 5) pe_int (nomark _))
 (pss_one (ps_ret (pe_tup (pa_cons (pe_op op_add (pv 3) pe_int) (pa_cons (pv 4) pa_nil)))))
 pss_nil)
 (pss_cons (ps_if (pt_cmpR op_eq (pv 5) pe_int (nomark _))
 (pss_one (ps_ret (pe_tup (pa_cons (pe_un un_neg (pv 3)) (pa_cons (pv 4) pa_nil)))))
 pss_nil)
 (pss_one (ps_ret (pv 2))))))))), ?_⟩
  obtain ⟨a, f, g, u, d, u', d', rfl, hp, h1, h2, k⟩ := h
  have q1 := bt200' h1.bu
  have q2 := bt200' h1.bd
  have q3 := bt200' h2.bu
  have q4 := bt200' h2.bd
  have q5 := h1.d1
  have q6 := h2.d1
  tm_at "go"
  all_goals first
    | (exfalso; omega)
    | (rename_i ho; exact k _ _ _ _ (by tm_at "kc") (by tm_at "lp") ⟨ho, by omega, bt200 (by omega), bt200 (by omega)⟩)
    | exact k _ _ _ _ (by tm_at "kc") (by tm_at "lp") (by tm_at "ft")
theorem ok_l_row (T : Txt K mg CShare COddsError CBadShare CBadText CBadBook CBadMove CBadProgram CBadPlan CUnfit CTooLarge CBadEdit) : Fc P w K mg base CX0 4 "_law_row" ["pool"] (spRow) := by
  refine fc_of T.d_l_row sc_l_row (fun vs H Q E h => by obtain ⟨a, rfl, hp, k⟩ := h; rfl) (fun _ _ _ _ _ _ us hl => match us, hl with | [_], _ => rfl) fun f cdv A outer s H vs Q E hr h => ⟨_, (pss_cons (ps_set (i := 1) sc_l_row.nd rfl (Or.inl rfl) (pe_lst pa_nil))
 (pss_cons (ps_for PassesOwn.never rfl (pi_range1 (by rfl) T.n_range (pa_cons (pe_fc (ok_l_draw T) pass0 (hr.mono (by decide)) (pa_cons (pv 0) (pa_cons pe_int pa_nil))) pa_nil)) (pg_name (i := 2) sc_l_row.nd rfl (Or.inl rfl))
 (pss_cons (ps_set (i := 3) sc_l_row.nd rfl (Or.inl rfl) (pe_fc (ok_l_fraction T) pass0 (hr.mono (by decide)) (pa_cons (pv 0) pa_nil)))
 (pss_cons (ps_if (PW.pt (pw_and (pt_cmpR op_gt (pv 2) pe_int (nomark _)) (pw_and1 (pt_cmpR op_eq (pe_fc (ok_l_draw T) pass0 (hr.mono (by decide)) (pa_cons (pv 0) (pa_cons pe_int pa_nil))) pe_int (nomark _)))))
 (pss_one (ps_set (i := 3) sc_l_row.nd rfl (Or.inl rfl) (pe_ix (ixlK K) (pv 1) (pe_fc (ok_l_draw T) pass0 (hr.mono (by decide)) (pa_cons (pv 0) (pa_cons (pv 2) pa_nil))) (fun _ _ => rfl))))
 pss_nil)
 (pss_one (ps_expr (pe_bm PySem.F.plainAttrs_list PySem.F.slot_list_append PySem.F.type_list_append mt_append (pv 1) (pa_cons (pv 3) pa_nil)))))))
 (pss_one (ps_ret (pv 1))))), ?_⟩
  obtain ⟨a, rfl, hp, k⟩ := h
  tm_at "go"
  rename_i p H1 hn hk1 ho r H2 r0 r1 hk2 hp2
  have npa : p ≠ a := (Pool.ne hn hp).symm
  refine l_range (fun i σ H' => ∃ (ws : List V) (fs : List (Int × Int)) (v w : Option V), σ = [some (.ref a), some (.ref p), v, w] ∧ Kp [a] H H' ∧ Pool H' a ∧ H' p = some (.lst ws) ∧ FrRow H' ws fs ∧ fs.length = i) ?_ ?_ ?_
  · exact ⟨[], [], none, none, rfl, by tm_at "kc", hp2, by tm_at "lk", .nil, rfl⟩
  · rintro i σ H3 hi ⟨ws, fs, v, w, rfl, k3, p3, e3, row, li⟩
    rw [Int.zero_add]
    have lw : ws.length = i := (Paired.length row).trans li
    tm_at "run"
    · rename_i q1 u1 d1 I1 c1 _ f1 hi0 x1 I2 _ _ c2 _ _ j I3 j0 j1 c3 pp3
      have j2 : j < (ws.length : Int) := by omega
      obtain ⟨y, hy, my⟩ := atI_mem (xs := ws) j0 j2
      obtain ⟨n, en⟩ := List.mem_iff_getElem?.mp my
      obtain ⟨f, hf, q, rfl, F⟩ := paired_get row en
      refine u_ixL (sql (by tm_at "lk")) hy ?_
      tm_at "run"
      rename_i I4 c4 e4
      exact ⟨_, fs ++ [f], _, _, rfl, by tm_at "kc", by tm_at "lp", e4, paired_more (show FrRow I4 ws fs by tm_at "fr") ⟨q, rfl, by tm_at "ft"⟩, by simp [li]⟩
    · rename_i I4 c4 e4
      exact ⟨_, fs ++ [(_, _)], _, _, rfl, by tm_at "kc", by tm_at "lp", e4, paired_more (show FrRow I4 ws fs by tm_at "fr") ⟨_, rfl, by tm_at "ft"⟩, by simp [li]⟩
    · rename_i I4 c4 e4
      exact ⟨_, fs ++ [(_, _)], _, _, rfl, by tm_at "kc", by tm_at "lp", e4, paired_more (show FrRow I4 ws fs by tm_at "fr") ⟨_, rfl, by tm_at "ft"⟩, by simp [li]⟩
  · rintro σ H3 ⟨ws, fs, v, w, rfl, k3, p3, e3, row, li⟩
    tm_at "run"
    exact k _ _ _ _ k3 p3 e3 row (by omega)
theorem ok_l_low (T : Txt K mg CShare COddsError CBadShare CBadText CBadBook CBadMove CBadProgram CBadPlan CUnfit CTooLarge CBadEdit) : Fc P w K mg base CX0 1 "_law_low" ["up", "down"] (spLow) := by
  refine fc_of T.d_l_low sc_l_low (fun vs H Q E h => by obtain ⟨u, d, rfl, d1, bd, k⟩ := h; rfl) (fun _ _ _ _ _ _ us hl => match us, hl with | [_, _], _ => rfl) fun f cdv A outer s H vs Q E hr h => ⟨_, (pss_cons (ps_set (i := 2) sc_l_low.nd rfl (Or.inl rfl) (pe_callB c_abs (by rfl) T.n_abs b_abs (pa_cons (pv 0) pa_nil)))
 (pss_cons (ps_set (i := 3) sc_l_low.nd rfl (Or.inl rfl) (pv 1))
 (pss_cons (ps_while PassesOwn.never (pt_cmpR op_gt (pv 3) pe_int (nomark _))
 (pss_one (ps_par (i := 2) (j := 3) (by rfl) sc_l_low.nd rfl rfl (by decide) rfl rfl (pa_cons (pv 3) (pa_cons (pe_op op_mod (pe_callTy c_int1 (by rfl) T.n_int b_int (pa_cons (pv 2) pa_nil)) (pv 3)) pa_nil)) (by rfl))))
 (pss_one (ps_ret (pe_tup (pa_cons (pe_op op_fdivW (pv 0) (pv 2)) (pa_cons (pe_op op_fdivW (pv 1) (pv 2)) pa_nil)))))))), ?_⟩
  obtain ⟨u, d, rfl, d1, bd, k⟩ := h
  have gp := Fr.Fr.gpos (u := u) d1
  have gb : Bt 8500 ((Nat.gcd u.natAbs d.natAbs : Nat) : Int) := bd.le (by have := Fr.Fr.gle (u := u) d1; omega)
  have cd : ∀ x, CDivW x ((Nat.gcd u.natAbs d.natAbs : Nat) : Int) := fun x => gb.cdiv gp
  tm_at "go"
  rename_i m m0 m1
  have em : m.natAbs = u.natAbs := by omega
  refine w_by (fun σ H' => ∃ x y : Int, σ = [some (.int u), some (.int d), some (.int x), some (.int y)] ∧ H' = H ∧ 0 ≤ x ∧ 0 ≤ y ∧ Nat.gcd x.natAbs y.natAbs = Nat.gcd u.natAbs d.natAbs) (fun σ _ => match σ with | [_, _, _, some (.int y)] => y.toNat | _ => 0) ⟨m, d, rfl, rfl, m0, by omega, by rw [em]⟩ ?_ ?_
  · rintro σ H' ⟨x, y, rfl, rfl, h0, h1, g⟩
    tm_at "run"
    · rename_i hc
      have m0 := Int.emod_nonneg x (show y ≠ 0 by omega)
      have m1 := Int.emod_lt_of_pos x hc
      refine ⟨⟨_, _, rfl, rfl, h1, m0, ?_⟩, ?_⟩
      · have e : (x % y).natAbs = x.natAbs % y.natAbs := by rw [Int.natAbs_emod_of_nonneg h0]
        rw [e, Nat.gcd_comm, ← Nat.gcd_rec, Nat.gcd_comm]
        exact g
      · show (x % y).toNat < y.toNat
        omega
    · rename_i hc
      have y0 : y = 0 := by omega
      subst y0
      obtain rfl : x = ((Nat.gcd u.natAbs d.natAbs : Nat) : Int) := by
        have q : x.natAbs = Nat.gcd u.natAbs d.natAbs := by simpa using g
        omega
      refine u_I (cd _) ?_
      tm_at "run"
      refine u_I (cd _) ?_
      tm_at "run"
      rename_i hn hk ho
      exact k _ _ _ _ hn hk ho (Fr.Fr.init d1)
  · rintro σ H' Q1 Q2 hq ⟨v, hv, i, j, e1, e2, n, en, q⟩
    exact ⟨v, hv, i, j, e1, e2, n, en, hq _ _ q⟩
theorem ok_l_fields (T : Txt K mg CShare COddsError CBadShare CBadText CBadBook CBadMove CBadProgram CBadPlan CUnfit CTooLarge CBadEdit) : Fc P w K mg base CX0 2 "_law_fields" ["told", "due"] (spFields CShare) := by
  refine fc_of T.d_l_fields sc_l_fields (fun vs H Q E h => by obtain ⟨p, q, t, b, t', b', rfl, s, l, e, k⟩ := h; rfl) (fun _ _ _ _ _ _ us hl => match us, hl with | [_, _], _ => rfl) fun f cdv A outer s H vs Q E hr h => ⟨_, (pss_cons (ps_if (PW.pt (pw_or (pt_not (pt_val (pe_callB (isiK K) (by rfl) T.n_isinstance b_isinstance (pa_cons (pv 0) (pa_cons (pe_glob (v := .ref CShare) rfl T.sh.g rfl) pa_nil))))) (pw_or (pt_not (pt_val (pe_fc (ok_l_int T) pass0 (hr.mono (by decide)) (pa_cons (fldK K (pv 0) rfl) pa_nil)))) (pw_or1 (pt_not (pt_val (pe_fc (ok_l_int T) pass0 (hr.mono (by decide)) (pa_cons (fldK K (pv 0) rfl) pa_nil))))))))
 (pss_one (ps_ret pe_bl))
 pss_nil)
 (pss_one (ps_ret (pe_and (pe_cmpR op_eq (fldK K (pv 0) rfl) (pe_ix (ixtK K) (pv 1) pe_int (fun _ _ => rfl)) (nomark _)) (pe_one (pe_cmpR op_eq (fldK K (pv 0) rfl) (pe_ix (ixtK K) (pv 1) pe_int (fun _ _ => rfl)) (nomark _))))))), ?_⟩
  obtain ⟨p, q, t, b, t', b', rfl, s, l, e, k⟩ := h
  have S := T.sh
  tm_at "go"
  all_goals first | (exfalso; omega) | skip
  rw [decide_eq_true e.2]
  exact k
theorem ok_l_answers (T : Txt K mg CShare COddsError CBadShare CBadText CBadBook CBadMove CBadProgram CBadPlan CUnfit CTooLarge CBadEdit) : Fc P w K mg base CX0 1 "_law_answers" ["told", "due"] (spAns) := by
  refine fc_of T.d_l_answers sc_l_answers (fun vs H Q E h => by obtain ⟨x, y, rfl, e, k⟩ := h; rfl) (fun _ _ _ _ _ _ us hl => match us, hl with | [_, _], _ => rfl) fun f cdv A outer s H vs Q E hr h => ⟨_, (pss_one (ps_ret (pe_and (pe_callB (isiK K) (by rfl) T.n_isinstance b_isinstance (pa_cons (pv 0) (pa_cons (pe_bltn (v := .ty "bool") (by rfl) T.n_bool b_bool rfl) pa_nil))) (pe_one (pe_cmpR op_eq (pv 0) (pv 1) (nomark _)))))), ?_⟩
  obtain ⟨x, y, rfl, e, k⟩ := h
  tm_at "go"
  rw [decide_eq_true e]
  exact k
theorem ok_l_no_mean (T : Txt K mg CShare COddsError CBadShare CBadText CBadBook CBadMove CBadProgram CBadPlan CUnfit CTooLarge CBadEdit) : Fc P w K mg base CX0 6 "_law_no_mean" ["as_tuple"] (spNoMean) := by
  refine fc_of T.d_l_no_mean sc_l_no_mean (fun vs H Q E h => by obtain ⟨x, rfl, k⟩ := h; rfl) (fun _ _ _ _ _ _ us hl => match us, hl with | [_], _ => rfl) fun f cdv A outer s H vs Q E hr h => ⟨_, (pss_cons (ps_set (i := 1) sc_l_no_mean.nd rfl (Or.inl rfl) pe_bl)
 (pss_cons (ps_try_as (i := 2) (Wout := fun _ _ _ _ => False) rfl rfl sc_l_no_mean.nd rfl rfl ⟨rfl, by decide, Or.inl T.e_OddsError.g⟩ takes0 (fun W pn xe tk _ =>
 (pss_one (ps_if (pt_val (pv 0))
 (pss_one (ps_expr (pe_fcS (ok_mean_t T) (fun σ => passAt tk σ) (hr.mono (by decide)) (pa_cons (pe_tup pa_nil) pa_nil))))
 (pss_one (ps_expr (pe_fcS (ok_mean T) (fun σ => passAt tk σ) (hr.mono (by decide)) (pa_cons (pe_lst pa_nil) pa_nil)))))))
 (fun a oe cls d pn hz hf =>
 (pss_cons (ps_set (i := 1) sc_l_no_mean.nd rfl (Or.inl rfl) (pe_and (pe_callB (c_isE hz hf) (by rfl) T.n_isinstance b_isinstance (pa_cons (pv 2) (pa_cons (pe_glob (v := .ref CBadShare) rfl T.e_BadShare.g rfl) pa_nil))) (pe_one (pe_callB (c_isE hz hf) (by rfl) T.n_isinstance b_isinstance (pa_cons (pv 2) (pa_cons (pe_bltn (v := .ty "ValueError") (by rfl) T.n_ValueError b_ValueError rfl) pa_nil))))))
 (pss_one (ps_if (pt_val (pe_callB (c_isET hz hf) (by rfl) T.n_isinstance b_isinstance (pa_cons (pv 2) (pa_cons (pe_tup (pa_cons (pe_glob (v := .ref CBadText) rfl T.e_BadText.g rfl) (pa_cons (pe_glob (v := .ref CBadBook) rfl T.e_BadBook.g rfl) (pa_cons (pe_glob (v := .ref CBadMove) rfl T.e_BadMove.g rfl) (pa_cons (pe_glob (v := .ref CBadProgram) rfl T.e_BadProgram.g rfl) (pa_cons (pe_glob (v := .ref CBadPlan) rfl T.e_BadPlan.g rfl) (pa_cons (pe_glob (v := .ref CUnfit) rfl T.e_Unfit.g rfl) (pa_cons (pe_glob (v := .ref CTooLarge) rfl T.e_TooLarge.g rfl) (pa_cons (pe_glob (v := .ref CBadEdit) rfl T.e_BadEdit.g rfl) pa_nil))))))))) pa_nil))))
 (pss_one (ps_set (i := 1) sc_l_no_mean.nd rfl (Or.inl rfl) pe_bl))
 pss_nil)))))
 (pss_one (ps_ret (pv 1))))), ?_⟩
  obtain ⟨x, rfl, k⟩ := h
  have S := T.sh
  have nos : ∀ C ∈ [CBadText, CBadBook, CBadMove, CBadProgram, CBadPlan, CUnfit, CTooLarge, CBadEdit], PySem.W.kitOne K (.ref CBadShare) (.ref C) = some false := by
    intro C hC
    simp only [List.mem_cons, List.not_mem_nil, or_false] at hC
    rcases hC with rfl | rfl | rfl | rfl | rfl | rfl | rfl | rfl
    · exact T.e_BadText.no T.no_BadText
    · exact T.e_BadBook.no T.no_BadBook
    · exact T.e_BadMove.no T.no_BadMove
    · exact T.e_BadProgram.no T.no_BadProgram
    · exact T.e_BadPlan.no T.no_BadPlan
    · exact T.e_Unfit.no T.no_Unfit
    · exact T.e_TooLarge.no T.no_TooLarge
    · exact T.e_BadEdit.no T.no_BadEdit
  tm_at "go"
  refine br_b (fun _ => ?_) (fun _ => ?_)
  all_goals
    tm_at "run"
    first
      | refine k_meanBad rfl (by tm_at "sq") ?_
      | refine k_meanBadT rfl (by tm_at "sqt") ?_
    refine ⟨true, T.e_OddsError.exm T.up, fun _ x nx => ?_, fun z => by cases z⟩
    tm_at "run"
    refine isE_self T.e_BadShare.e ?_
    tm_at "run"
    refine isE_VE T.e_BadShare.e T.upV ?_
    tm_at "run"
    rename_i tp H2 nt k2 ot
    refine isET_none [CBadText, CBadBook, CBadMove, CBadProgram, CBadPlan, CUnfit, CTooLarge, CBadEdit] T.e_BadShare.e ot nos ?_
    tm_at "run"
    exact k _ (by tm_at "kc")
theorem ok_l_kept (T : Txt K mg CShare COddsError CBadShare CBadText CBadBook CBadMove CBadProgram CBadPlan CUnfit CTooLarge CBadEdit) : Fc P w K mg base CX0 3 "_law_kept" ["given", "lows"] (spKept CShare) := by
  refine fc_of T.d_l_kept sc_l_kept (fun vs H Q E h => by obtain ⟨p, q, ws, zs, fs, rfl, h1, h2, ho, h6, h3, h4, k⟩ := h; rfl) (fun _ _ _ _ _ _ us hl => match us, hl with | [_, _], _ => rfl) fun f cdv A outer s H vs Q E hr h => ⟨_, (pss_cons (ps_if (pt_cmpR op_ne (pe_callB (lenK K) (by rfl) T.n_len b_len (pa_cons (pv 0) pa_nil)) (pe_callB (lenK K) (by rfl) T.n_len b_len (pa_cons (pv 1) pa_nil)) (nomark _))
 (pss_one (ps_ret pe_bl))
 pss_nil)
 (pss_cons (ps_for PassesOwn.never rfl (pi_range1 (by rfl) T.n_range (pa_cons (pe_callB (lenK K) (by rfl) T.n_len b_len (pa_cons (pv 1) pa_nil)) pa_nil)) (pg_name (i := 2) sc_l_kept.nd rfl (Or.inl rfl))
 (pss_one (ps_if (pt_not (pt_val (pe_fc (ok_l_fields T) pass0 (hr.mono (by decide)) (pa_cons (pe_ix (ixlK K) (pv 0) (pv 2) (fun _ _ => rfl)) (pa_cons (pe_ix (ixlK K) (pv 1) (pv 2) (fun _ _ => rfl)) pa_nil)))))
 (pss_one (ps_ret pe_bl))
 pss_nil)))
 (pss_one (ps_ret pe_bl)))), ?_⟩
  obtain ⟨p, q, ws, zs, fs, rfl, h1, h2, ho, h6, h3, h4, k⟩ := h
  have S := T.sh
  have lw : ws.length = fs.length := Paired.length h2
  have lz : zs.length = fs.length := Paired.length h4
  tm_at "go"
  · refine l_range (fun i σ H' => ∃ v, σ = [some (.ref p), some (.ref q), v] ∧ H' = H) ⟨none, rfl, rfl⟩ ?_ ?_
    · rintro i σ H' hi ⟨v, rfl, rfl⟩
      rw [Int.zero_add]
      have hi : i < fs.length := by omega
      have ef : fs[i]? = some fs[i] := List.getElem?_eq_getElem hi
      obtain ⟨_, ew, a, t, b, rfl, sa, fa⟩ := paired_get' h2 ef
      obtain ⟨_, ez, c, t', b', rfl, sc, fc⟩ := paired_get' h4 ef
      have aw := atI_nat ew
      have az := atI_nat ez
      have o1 := (ho _ (List.mem_of_getElem? ef)).1
      have e := (Fr.Fr.eq_iff fa fc o1 o1).mpr rfl
      tm_at "run"
      exact ⟨_, rfl, rfl⟩
    · rintro σ H' ⟨v, rfl, rfl⟩
      tm_at "run"
      exact k
  · exfalso; omega
theorem ok_l_mean_holds (T : Txt K mg CShare COddsError CBadShare CBadText CBadBook CBadMove CBadProgram CBadPlan CUnfit CTooLarge CBadEdit) : Fc P w K mg base CX0 7 "_law_mean_holds" ["row", "lows"] (spRows) := by
  refine fc_of T.d_l_mean_holds sc_l_mean_holds (fun vs H Q E h => by obtain ⟨p, q, ws, zs, fs, rfl, h1, h2, h6, h3, h4, k⟩ := h; rfl) (fun _ _ _ _ _ _ us hl => match us, hl with | [_, _], _ => rfl) fun f cdv A outer s H vs Q E hr h => ⟨_, (pss_cons (ps_if (pt_cmpR op_eq (pe_callB (lenK K) (by rfl) T.n_len b_len (pa_cons (pv 0) pa_nil)) pe_int (nomark _))
 (pss_one (ps_ret (pe_and (pe_fc (ok_l_no_mean T) pass0 (hr.mono (by decide)) (pa_cons pe_bl pa_nil)) (pe_one (pe_fc (ok_l_no_mean T) pass0 (hr.mono (by decide)) (pa_cons pe_bl pa_nil))))))
 pss_nil)
 (pss_cons (ps_asg (pe_tup (pa_cons pe_int (pa_cons pe_int pa_nil))) (pgTK K 2 (by rfl) (pgs_cons (pg_name (i := 2) sc_l_mean_holds.nd rfl (Or.inl rfl)) (pgs_cons (pg_name (i := 3) sc_l_mean_holds.nd rfl (Or.inl rfl)) pgs_nil))))
 (pss_cons (ps_for PassesOwn.never rfl (piLK K (pv 0)) (pgTK K 2 (by rfl) (pgs_cons (pg_name (i := 4) sc_l_mean_holds.nd rfl (Or.inl rfl)) (pgs_cons (pg_name (i := 5) sc_l_mean_holds.nd rfl (Or.inl rfl)) pgs_nil)))
 (pss_one (ps_par (i := 2) (j := 3) (by rfl) sc_l_mean_holds.nd rfl rfl (by decide) rfl rfl (pa_cons (pe_op op_add (pe_op op_mulX (pv 2) (pv 5)) (pe_op op_mulX (pv 4) (pv 3))) (pa_cons (pe_op op_mulX (pv 3) (pv 5)) pa_nil)) (by rfl))))
 (pss_cons (ps_set (i := 6) sc_l_mean_holds.nd rfl (Or.inl rfl) (pe_fc (ok_l_low T) pass0 (hr.mono (by decide)) (pa_cons (pv 2) (pa_cons (pe_op op_mulX (pv 3) (pe_callB (lenK K) (by rfl) T.n_len b_len (pa_cons (pv 0) pa_nil))) pa_nil))))
 (pss_cons (ps_setLc (i := 7) (own := [("up", 4), ("down", 5)]) (g := (gTup K 2 (gCons (gName 4) (gCons (gName 5) gNil)))) (tt := tYes) rfl sc_l_mean_holds.nd rfl rfl (sw_true rfl rfl rfl (by decide +kernel)) (piLK K (pv 0)) (blkOk_by (own := [("up", 4), ("down", 5)]) (N := ["row", "lows", "top", "low", "up", "down", "due", "given"]) (sc := defScope s_l_mean_holds) (by decide +kernel)) (fun _ _ _ _ _ => (pgTK K 2 (by rfl) (pgs_cons (pg_name (i := 4) sc_l_mean_holds.nd rfl (Or.inl rfl)) (pgs_cons (pg_name (i := 5) sc_l_mean_holds.nd rfl (Or.inl rfl)) pgs_nil)))) (fun _ _ _ _ _ => pts_nil) (fun _ _ _ _ _ => (pe_sh (ok_Share T) (passAll passL) (hr.mono (by decide)) (pa_cons (pv 4) (pa_cons (pv 5) pa_nil)))))
 (pss_cons (ps_if (PW.pt (pw_or (pt_not (pt_val (pe_fc (ok_l_fields T) pass0 (hr.mono (by decide)) (pa_cons (pe_fc (ok_mean T) passL (hr.mono (by decide)) (pa_cons (pv 7) pa_nil)) (pa_cons (pv 6) pa_nil))))) (pw_or1 (pt_not (pt_val (pe_fc (ok_l_fields T) pass0 (hr.mono (by decide)) (pa_cons (pe_fc (ok_mean_t T) passL (hr.mono (by decide)) (pa_cons (pe_callTy (tupK K) (by rfl) T.n_tuple b_tuple (pa_cons (pv 7) pa_nil)) pa_nil)) (pa_cons (pv 6) pa_nil))))))))
 (pss_one (ps_ret pe_bl))
 pss_nil)
 (pss_one (ps_ret (pe_and (pe_fc (ok_l_kept T) pass0 (hr.mono (by decide)) (pa_cons (pv 7) (pa_cons (pv 1) pa_nil))) (pe_one (pe_fc (ok_l_fields T) pass0 (hr.mono (by decide)) (pa_cons (pe_fc (ok_mean T) passL (hr.mono (by decide)) (pa_cons (pv 7) pa_nil)) (pa_cons (pv 6) pa_nil))))))))))))), ?_⟩
  obtain ⟨p, q, ws, zs, fs, rfl, h1, h2, h6, h3, h4, k⟩ := h
  have S := T.sh
  have lw : ws.length = fs.length := Paired.length h2
  have ho := h2.ok
  tm_at "go"
  · exact k _ (by tm_at "kc")
  rename_i hc tp H1 hn1 hk1 ho1
  have ne : fs ≠ [] := fun z => hc (by rw [lw, z]; rfl)
  obtain ⟨z1, z2, z3⟩ := sum_bt ho fs.length (Nat.le_refl _)
  rw [List.take_length] at z1 z2 z3
  refine l_list ws (fun i σ H' => ∃ v w : Option V, σ = [some (.ref p), some (.ref q), some (.int (Fr.sumRow (fs.take i)).1), some (.int (Fr.sumRow (fs.take i)).2), v, w, none, none] ∧ H' = H1) ?_ ?_ ?_ ?_
  · exact ⟨none, none, rfl, rfl⟩
  · rintro i σ H' _ ⟨_, _, _, rfl⟩
    exact sql (by tm_at "lk")
  · rintro i x σ H' hx ⟨v, w, rfl, rfl⟩
    obtain ⟨f, hf, a, rfl, F⟩ := paired_get h2 hx
    have hi := (List.getElem?_eq_some_iff.mp hf).1
    obtain ⟨y1, y2, y3⟩ := sum_bt ho i (by omega)
    have y1 := y1.mono (m := 1300) (by omega)
    have y2 := y2.mono (m := 1300) (by omega)
    have y4 := F.bu
    have y5 := F.bd
    tm_at "run"
    exact ⟨_, _, by rw [Fr.sum_more hf]; rfl, rfl⟩
  · rintro σ H' ⟨v, w, rfl, rfl⟩
    rw [lw, List.take_length]
    have y1 := z1.mono (m := 1300) (by omega)
    have y2 := z2.mono (m := 1300) (by omega)
    have lb : Bt 30 ((ws.length : Nat) : Int) := bt30 (by omega)
    have cm : CMulX (Fr.sumRow fs).2 ((ws.length : Nat) : Int) := y2.cmul lb
    have l1 : 1 ≤ (Fr.sumRow fs).2 * ((ws.length : Nat) : Int) := Int.mul_pos z3 (by omega)
    have lb2 : Bt 8500 ((Fr.sumRow fs).2 * ((ws.length : Nat) : Int)) := (y2.mul lb).mono (by decide)
    tm_at "run"
    rename_i L H2 x y hn2 hk2 ho2 f2
    rw [lw] at f2 l1
    have r2 : FrRow H2 ws fs := by tm_at "fr"
    refine l_lcL ws (fun D i H' => ∃ gs, Kp [] H2 H' ∧ H' D = some (.lst gs) ∧ ShRow CShare H' gs (fs.take i)) ?_ ?_ ?_ ?_
    · intro D H' hD hk hz
      exact ⟨[], hk, hz, .nil⟩
    · rintro D i H' _ ⟨gs, c, _⟩
      exact sql (by tm_at "lk")
    · rintro D i v H3 hD hx ⟨gs, c, eD, rw3⟩
      obtain ⟨f, hf, a, rfl, F⟩ := paired_get r2 hx
      have hi := (List.getElem?_eq_some_iff.mp hf).1
      have lg : gs.length = i := (Paired.length rw3).trans (by rw [List.length_take]; omega)
      have F3 := F.kp0 c
      have d1 := F.d1
      have bd := F.bd
      tm_at "run"
      rename_i r I1 x1 y1 rn c1 s1 f1 I2 c2 e2
      refine ⟨_, ?_, e2, ?_⟩
      · exact (c.trans c1).low' c2 hD .refl
      · rw [Fr.take_more hf]
        exact paired_more (show ShRow CShare I2 gs (fs.take i) by tm_at "sr") ⟨_, _, _, rfl, by tm_at "sh", f1⟩
    · rintro D H3 hD ⟨gs, c, eD, r3⟩
      rw [lw, List.take_length] at r3
      tm_at "run"
      rename_i m1 x1 y1 H4 c4 s4 f4
      have e4 : x1 = x ∧ y1 = y := (Fr.Fr.eq_iff f4 f2 l1 l1).mpr rfl
      tm_at "run"
      rename_i m2 x2 y2 H5 c5 s5 f5
      have e5 : x2 = x ∧ y2 = y := (Fr.Fr.eq_iff f5 f2 l1 l1).mpr rfl
      tm_at "run"
      rename_i m3 x3 y3 H6 c6 s6 f6
      have e6 : x3 = x ∧ y3 = y := (Fr.Fr.eq_iff f6 f2 l1 l1).mpr rfl
      tm_at "run"
      exact k _ (by tm_at "kc")
theorem ok_l_greatest_holds (T : Txt K mg CShare COddsError CBadShare CBadText CBadBook CBadMove CBadProgram CBadPlan CUnfit CTooLarge CBadEdit) : Fc P w K mg base CX0 5 "_law_greatest_holds" ["row", "lows"] (spRows) := by
  refine fc_of T.d_l_greatest_holds sc_l_greatest_holds (fun vs H Q E h => by obtain ⟨p, q, ws, zs, fs, rfl, h1, h2, h6, h3, h4, k⟩ := h; rfl) (fun _ _ _ _ _ _ us hl => match us, hl with | [_, _], _ => rfl) fun f cdv A outer s H vs Q E hr h => ⟨_, (pss_cons (ps_set (i := 2) sc_l_greatest_holds.nd rfl (Or.inl rfl) (pe_tup (pa_cons pe_int (pa_cons pe_int pa_nil))))
 (pss_cons (ps_for PassesOwn.never rfl (piLK K (pv 0)) (pgTK K 2 (by rfl) (pgs_cons (pg_name (i := 3) sc_l_greatest_holds.nd rfl (Or.inl rfl)) (pgs_cons (pg_name (i := 4) sc_l_greatest_holds.nd rfl (Or.inl rfl)) pgs_nil)))
 (pss_one (ps_if (pt_cmpR op_gt (pe_op op_mulX (pv 3) (pe_ix (ixtK K) (pv 2) pe_int (fun _ _ => rfl))) (pe_op op_mulX (pe_ix (ixtK K) (pv 2) pe_int (fun _ _ => rfl)) (pv 4)) (nomark _))
 (pss_one (ps_set (i := 2) sc_l_greatest_holds.nd rfl (Or.inl rfl) (pe_tup (pa_cons (pv 3) (pa_cons (pv 4) pa_nil)))))
 pss_nil)))
 (pss_cons (ps_setLc (i := 5) (own := [("up", 3), ("down", 4)]) (g := (gTup K 2 (gCons (gName 3) (gCons (gName 4) gNil)))) (tt := tYes) rfl sc_l_greatest_holds.nd rfl rfl (sw_true rfl rfl rfl (by decide +kernel)) (piLK K (pv 0)) (blkOk_by (own := [("up", 3), ("down", 4)]) (N := ["row", "lows", "best", "up", "down", "given", "told", "again", "k"]) (sc := defScope s_l_greatest_holds) (by decide +kernel)) (fun _ _ _ _ _ => (pgTK K 2 (by rfl) (pgs_cons (pg_name (i := 3) sc_l_greatest_holds.nd rfl (Or.inl rfl)) (pgs_cons (pg_name (i := 4) sc_l_greatest_holds.nd rfl (Or.inl rfl)) pgs_nil)))) (fun _ _ _ _ _ => pts_nil) (fun _ _ _ _ _ => (pe_sh (ok_Share T) (passAll passL) (hr.mono (by decide)) (pa_cons (pv 3) (pa_cons (pv 4) pa_nil)))))
 (pss_cons (ps_set (i := 6) sc_l_greatest_holds.nd rfl (Or.inl rfl) (pe_fc (ok_greatest T) pass0 (hr.mono (by decide)) (pa_cons (pv 5) pa_nil)))
 (pss_cons (ps_set (i := 7) sc_l_greatest_holds.nd rfl (Or.inl rfl) (pe_fc (ok_greatest_t T) pass0 (hr.mono (by decide)) (pa_cons (pe_callTy (tupK K) (by rfl) T.n_tuple b_tuple (pa_cons (pv 5) pa_nil)) pa_nil)))
 (pss_cons (ps_if (PW.pt (pw_or (pt_not (pt_val (pe_fc (ok_l_fields T) pass0 (hr.mono (by decide)) (pa_cons (pv 6) (pa_cons (pe_fc (ok_l_low T) pass0 (hr.mono (by decide)) (pa_cons (pe_ix (ixtK K) (pv 2) pe_int (fun _ _ => rfl)) (pa_cons (pe_ix (ixtK K) (pv 2) pe_int (fun _ _ => rfl)) pa_nil))) pa_nil))))) (pw_or1 (pt_not (pt_val (pe_fc (ok_l_fields T) pass0 (hr.mono (by decide)) (pa_cons (pv 7) (pa_cons (pe_tup (pa_cons (fldK K (pv 6) rfl) (pa_cons (fldK K (pv 6) rfl) pa_nil))) pa_nil))))))))
 (pss_one (ps_ret pe_bl))
 pss_nil)
 (pss_cons (ps_for PassesOwn.never rfl (pi_range1 (by rfl) T.n_range (pa_cons (pe_callB (lenK K) (by rfl) T.n_len b_len (pa_cons (pv 0) pa_nil)) pa_nil)) (pg_name (i := 8) sc_l_greatest_holds.nd rfl (Or.inl rfl))
 (pss_cons (ps_asg (pe_ix (ixlK K) (pv 0) (pv 8) (fun _ _ => rfl)) (pgTK K 2 (by rfl) (pgs_cons (pg_name (i := 3) sc_l_greatest_holds.nd rfl (Or.inl rfl)) (pgs_cons (pg_name (i := 4) sc_l_greatest_holds.nd rfl (Or.inl rfl)) pgs_nil))))
 (pss_cons (ps_if (pt_not (pt_val (pe_fc (ok_l_answers T) pass0 (hr.mono (by decide)) (pa_cons (pe_mc (ok_Share_at_most T) T.sh.cl pass0 (hr.mono (by decide)) (pe_ix (ixlK K) (pv 5) (pv 8) (fun _ _ => rfl)) (pa_cons (pv 6) pa_nil)) (pa_cons pe_bl pa_nil)))))
 (pss_one (ps_ret pe_bl))
 pss_nil)
 (pss_one (ps_if (pt_not (pt_val (pe_fc (ok_l_answers T) pass0 (hr.mono (by decide)) (pa_cons (pe_mc (ok_Share_at_most T) T.sh.cl pass0 (hr.mono (by decide)) (pv 6) (pa_cons (pe_ix (ixlK K) (pv 5) (pv 8) (fun _ _ => rfl)) pa_nil)) (pa_cons (pe_cmpR op_eq (pe_op op_mulX (pv 3) (pe_ix (ixtK K) (pv 2) pe_int (fun _ _ => rfl))) (pe_op op_mulX (pe_ix (ixtK K) (pv 2) pe_int (fun _ _ => rfl)) (pv 4)) (nomark _)) pa_nil)))))
 (pss_one (ps_ret pe_bl))
 pss_nil)))))
 (pss_one (ps_ret (pe_fc (ok_l_kept T) pass0 (hr.mono (by decide)) (pa_cons (pv 5) (pa_cons (pv 1) pa_nil)))))))))))), ?_⟩
  obtain ⟨p, q, ws, zs, fs, rfl, h1, h2, h6, h3, h4, k⟩ := h
  have S := T.sh
  have lw : ws.length = fs.length := Paired.length h2
  have ho := h2.ok
  tm_at "go"
  rename_i tp H1 hn1 hk1 ho1
  refine l_list ws (fun i σ H' => ∃ (bp : Addr) (v w : Option V), σ = [some (.ref p), some (.ref q), some (.ref bp), v, w, none, none, none, none] ∧ Kp [] H H' ∧ H' bp = some (.tup [.int (Fr.bestRow (fs.take i)).1, .int (Fr.bestRow (fs.take i)).2])) ?_ ?_ ?_ ?_
  · exact ⟨tp, none, none, rfl, hk1, ho1⟩
  · rintro i σ H' _ ⟨_, _, _, _, c, _⟩
    exact sql (by tm_at "lk")
  · rintro i x σ H' hx ⟨bp, v, w, rfl, c, eb⟩
    obtain ⟨f, hf, a, rfl, F⟩ := paired_get h2 hx
    obtain ⟨y3, y1, y2⟩ := best_ok (l := fs.take i) fun g hg => ho g (List.mem_of_mem_take hg)
    have y4 := F.bu
    have y5 := F.bd
    have F2 := F.kp0 c
    have bm := Fr.best_more hf
    tm_at "run"
    · rename_i hc np H2 hn2 hk2 ho2
      refine ⟨_, _, _, rfl, by tm_at "kc", ?_⟩
      have : Fr.bestStep (Fr.bestRow (fs.take i)) f = f := if_pos hc
      rw [bm, this]
      exact ho2
    · rename_i hc
      refine ⟨_, _, _, rfl, by tm_at "kc", ?_⟩
      have : Fr.bestStep (Fr.bestRow (fs.take i)) f = Fr.bestRow (fs.take i) := if_neg hc
      rw [bm, this]
      exact eb
  · rintro σ H2 ⟨bp, v, w, rfl, c, eb⟩
    rw [lw, List.take_length] at eb
    obtain ⟨w3, w1, w2⟩ := best_ok ho
    have y1 := w1
    have y2 := w2
    have b2 : Bt 8500 (Fr.bestRow fs).2 := y2.mono (by decide)
    have all := Fr.best_all fs (0, 1) (by decide) fun f hf => (ho f hf).1
    have r2 : FrRow H2 ws fs := by tm_at "fr"
    tm_at "run"
    refine l_lcL ws (fun D i H' => ∃ gs, Kp [] H2 H' ∧ H' D = some (.lst gs) ∧ ShRow CShare H' gs (fs.take i)) ?_ ?_ ?_ ?_
    · intro D H' hD hk hz
      exact ⟨[], hk, hz, .nil⟩
    · rintro D i H' _ ⟨gs, c, _⟩
      exact sql (by tm_at "lk")
    · rintro D i v H3 hD hx ⟨gs, c, eD, rw3⟩
      obtain ⟨f, hf, a, rfl, F⟩ := paired_get r2 hx
      have hi := (List.getElem?_eq_some_iff.mp hf).1
      have lg : gs.length = i := (Paired.length rw3).trans (by rw [List.length_take]; omega)
      have F3 := F.kp0 c
      have d1 := F.d1
      have bd := F.bd
      tm_at "run"
      rename_i r I1 x1 y1 rn c1 s1 f1 I2 c2 e2
      refine ⟨_, ?_, e2, ?_⟩
      · exact (c.trans c1).low' c2 hD .refl
      · rw [Fr.take_more hf]
        exact paired_more (show ShRow CShare I2 gs (fs.take i) by tm_at "sr") ⟨_, _, _, rfl, by tm_at "sh", f1⟩
    · rintro D H3 hD ⟨gs, cD, eD, r3⟩
      rw [lw, List.take_length] at r3
      tm_at "run"
      rename_i m1 x1 z1 H4 c4 s4 f4 tp2 H5 tn5 c5 o5 m2 x2 z2 H6 c6 s6 f6 L H7 x3 z3 n7 c7 o7 f7
      have e7 : x1 = x3 ∧ z1 = z3 := (Fr.Fr.eq_iff f4 f7 w3 w3).mpr rfl
      have e6 : x2 = x1 ∧ z2 = z1 := (Fr.Fr.eq_iff f6 f4 w3 w3).mpr rfl
      tm_at "run"
      rename_i np H8 n8 c8 o8
      have v1 : Bt 200 x1 := w1.le (f4.absle w3)
      have v2 : Bt 200 z1 := w2.le (by have := f4.le w3; have := f4.1; omega)
      refine l_range (fun k σ H' => ∃ v w z : Option V, σ = [some (.ref p), some (.ref q), some (.ref bp), v, w, some (.ref D), some (.ref m1), some (.ref m2), z] ∧ H' = H8) ?_ ?_ ?_
      · exact ⟨_, _, none, rfl, rfl⟩
      · rintro i σ H' hi ⟨v', w', z, rfl, rfl⟩
        rw [Int.zero_add]
        have hi : i < fs.length := by omega
        have ef : fs[i]? = some fs[i] := List.getElem?_eq_getElem hi
        obtain ⟨_, ew, a, rfl, F⟩ := paired_get' h2 ef
        obtain ⟨_, eg, a2, t', b', rfl, sc, fc⟩ := paired_get' r3 ef
        have aw := atI_nat ew
        have az := atI_nat eg
        have F8 : FrT H' a fs[i].1 fs[i].2 := by tm_at "ft"
        have u1 := F.bu
        have u2 := F.bd
        have o1 := F.d1
        have v3 : Bt 200 t' := u1.le (fc.absle o1)
        have v4 : Bt 200 b' := u2.le (by have := fc.le o1; have := fc.1; omega)
        have l1 := Fr.Fr.le_iff fc f4 o1 w3
        have l2 := Fr.Fr.le_iff f4 fc w3 o1
        have ub : fs[i].1 * (Fr.bestRow fs).2 ≤ (Fr.bestRow fs).1 * fs[i].2 := all.2.2 _ (List.getElem_mem hi)
        have g1 : decide (t' * z1 ≤ x1 * b') = true := decide_eq_true (l1.mpr ub)
        have g2 : decide (x1 * b' ≤ t' * z1) = decide (fs[i].1 * (Fr.bestRow fs).2 = (Fr.bestRow fs).1 * fs[i].2) := decide_eq_decide.mpr ⟨fun h => Int.le_antisymm ub (l2.mp h), fun h => l2.mpr (Int.le_of_eq h.symm)⟩
        tm_at "run"
        exact ⟨_, _, _, rfl, rfl⟩
      · rintro σ H' ⟨v', w', z, rfl, rfl⟩
        tm_at "run"
        exact k _ (by tm_at "kc")
theorem ok_l_power_due (T : Txt K mg CShare COddsError CBadShare CBadText CBadBook CBadMove CBadProgram CBadPlan CUnfit CTooLarge CBadEdit) : Fc P w K mg base CX0 1 "_law_power_due" ["low", "exponent"] (spPowDue) := by
  refine fc_of T.d_l_power_due sc_l_power_due (fun vs H Q E h => by obtain ⟨p, t, b, e, n, rfl, h, bt, bb, e0, e1, ne, k⟩ := h; rfl) (fun _ _ _ _ _ _ us hl => match us, hl with | [_, _], _ => rfl) fun f cdv A outer s H vs Q E hr h => ⟨_, (pss_cons (ps_asg (pe_tup (pa_cons pe_int (pa_cons pe_int pa_nil))) (pgTK K 2 (by rfl) (pgs_cons (pg_name (i := 2) sc_l_power_due.nd rfl (Or.inl rfl)) (pgs_cons (pg_name (i := 3) sc_l_power_due.nd rfl (Or.inl rfl)) pgs_nil))))
 (pss_cons (ps_for PassesOwn.never rfl (pi_range1 (by rfl) T.n_range (pa_cons (pv 1) pa_nil)) (pg_name (i := 4) sc_l_power_due.nd rfl (Or.inl rfl))
 (pss_one (ps_par (i := 2) (j := 3) (by rfl) sc_l_power_due.nd rfl rfl (by decide) rfl rfl (pa_cons (pe_op op_mulX (pv 2) (pe_ix (ixtK K) (pv 0) pe_int (fun _ _ => rfl))) (pa_cons (pe_op op_mulX (pv 3) (pe_ix (ixtK K) (pv 0) pe_int (fun _ _ => rfl))) pa_nil)) (by rfl))))
 (pss_one (ps_ret (pe_tup (pa_cons (pv 2) (pa_cons (pv 3) pa_nil))))))), ?_⟩
  obtain ⟨p, t, b, e, n, rfl, h, bt, bb, e0, e1, ne, k⟩ := h
  have n4 : n ≤ 3900 := Nat.le_trans (Nat.le_mul_of_pos_right n (Nat.succ_pos _)) ne
  have bt4 := bt.mono n4
  have bb4 := bb.mono n4
  tm_at "go"
  rename_i tp H1 hn hk ho
  refine l_range (fun i σ H' => ∃ v : Option V, σ = [some (.ref p), some (.int e), some (.int (t ^ i)), some (.int (b ^ i)), v] ∧ H' = H1) ?_ ?_ ?_
  · exact ⟨none, by rw [Int.pow_zero, Int.pow_zero]; rfl, rfl⟩
  · rintro i σ H' hi ⟨v, rfl, rfl⟩
    have le : n * i + 1 ≤ 3901 := by
      have : n * i ≤ n * (e.toNat + 1) := Nat.mul_le_mul_left n (by omega)
      omega
    have y1 := (bt_pow bt i).mono le
    have y2 := (bt_pow bb i).mono le
    have c1 : CMulX (t ^ i) t := y1.cmul bt4
    have c2 : CMulX (b ^ i) b := y2.cmul bb4
    tm_at "run"
    exact ⟨_, by rw [Int.pow_succ, Int.pow_succ]; rfl, rfl⟩
  · rintro σ H' ⟨v, rfl, rfl⟩
    tm_at "run"
    rename_i q H2 hn2 hk2 ho2
    exact k _ _ (hk.free hn2) (by tm_at "kc") ho2
theorem ok_l_products (T : Txt K mg CShare COddsError CBadShare CBadText CBadBook CBadMove CBadProgram CBadPlan CUnfit CTooLarge CBadEdit) : Fc P w K mg base CX0 4 "_law_products" ["one", "two", "first", "second"] (spTwo CShare) := by
  refine fc_of T.d_l_products sc_l_products (fun vs H Q E h => by obtain ⟨p, q, f, g, t, b, t', b', u, d, u', d', rfl, s, s', h, h', a, a', k⟩ := h; rfl) (fun _ _ _ _ _ _ us hl => match us, hl with | [_, _, _, _], _ => rfl) fun f cdv A outer s H vs Q E hr h => ⟨_, (pss_cons (ps_asg (pv 2) (pgTK K 2 (by rfl) (pgs_cons (pg_name (i := 4) sc_l_products.nd rfl (Or.inl rfl)) (pgs_cons (pg_name (i := 5) sc_l_products.nd rfl (Or.inl rfl)) pgs_nil))))
 (pss_cons (ps_asg (pv 3) (pgTK K 2 (by rfl) (pgs_cons (pg_name (i := 6) sc_l_products.nd rfl (Or.inl rfl)) (pgs_cons (pg_name (i := 7) sc_l_products.nd rfl (Or.inl rfl)) pgs_nil))))
 (pss_cons (ps_set (i := 8) sc_l_products.nd rfl (Or.inl rfl) (pe_fc (ok_l_low T) pass0 (hr.mono (by decide)) (pa_cons (pe_op op_mulX (pv 4) (pv 6)) (pa_cons (pe_op op_mulX (pv 5) (pv 7)) pa_nil))))
 (pss_cons (ps_if (PW.pt (pw_or (pt_not (pt_val (pe_fc (ok_l_fields T) pass0 (hr.mono (by decide)) (pa_cons (pe_op (op_mc (ok_Share___mul__ T) T.sh.sf passL (hr.mono (by decide))) (pv 0) (pv 1)) (pa_cons (pv 8) pa_nil))))) (pw_or1 (pt_not (pt_val (pe_fc (ok_l_fields T) pass0 (hr.mono (by decide)) (pa_cons (pe_op (op_mc (ok_Share___mul__ T) T.sh.sf passL (hr.mono (by decide))) (pv 1) (pv 0)) (pa_cons (pv 8) pa_nil))))))))
 (pss_one (ps_ret pe_bl))
 pss_nil)
 (pss_one (ps_ret (pe_fc (ok_l_fields T) pass0 (hr.mono (by decide)) (pa_cons (pe_op (op_mc (ok_Share___mul__ T) T.sh.sf passL (hr.mono (by decide))) (pe_op (op_mc (ok_Share___mul__ T) T.sh.sf passL (hr.mono (by decide))) (pv 0) (pv 1)) (pv 0)) (pa_cons (pe_fc (ok_l_low T) pass0 (hr.mono (by decide)) (pa_cons (pe_op op_mulX (pe_ix (ixtK K) (pv 8) pe_int (fun _ _ => rfl)) (pv 4)) (pa_cons (pe_op op_mulX (pe_ix (ixtK K) (pv 8) pe_int (fun _ _ => rfl)) (pv 5)) pa_nil))) pa_nil))))))))), ?_⟩
  obtain ⟨p, q, f, g, t, b, t', b', u, d, u', d', rfl, s, s', h, h', a, a', k⟩ := h
  have S := T.sh
  have b1 := a.1
  have b1' := a'.1
  have t1 : Bt 200 t := h.bu.le (a.absle h.d1)
  have t2 : Bt 200 b := h.bd.le (by have := a.le h.d1; omega)
  have t3 : Bt 200 t' := h'.bu.le (a'.absle h'.d1)
  have t4 : Bt 200 b' := h'.bd.le (by have := a'.le h'.d1; omega)
  have hu := h.bu
  have hd := h.bd
  have hu' := h'.bu
  have hd' := h'.bd
  have dd : 1 ≤ d * d' := Int.mul_pos h.d1 h'.d1
  have wu : Bt 400 (u * u') := hu.mul hu'
  have wd : Bt 400 (d * d') := hd.mul hd'
  have ld : Bt 8500 (d * d') := wd.mono (by decide)
  tm_at "go"
  rename_i L H1 x y hn1 hk1 ho1 f1 _ H2 x2 y2 hn2 hk2 hs2 f2 y21 bx2 by2
  have e1 : x2 = x ∧ y2 = y := (Fr.Fr.eq_iff (Fr.Fr.mul a a' f2) f1 dd dd).mpr rfl
  tm_at "run"
  rename_i _ H3 x3 y3 hn3 hk3 hs3 f3 y31 bx3 by3
  have g3 : Fr.Fr x3 y3 (u * u') (d * d') := (Fr.Fr.mul a' a f3).val (Int.mul_pos h'.d1 h.d1) (by grind)
  have e2 : x3 = x ∧ y3 = y := (Fr.Fr.eq_iff g3 f1 dd dd).mpr rfl
  have y11 := f1.1
  have bx1 : Bt 400 x := wu.le (f1.absle dd)
  have by1 : Bt 400 y := wd.le (by have := f1.le dd; omega)
  have d1 := h.d1
  have yd : 1 ≤ y * d := Int.mul_pos y11 d1
  have byd : Bt 8500 (y * d) := (by1.mul hd).mono (by decide)
  tm_at "run"
  rename_i _ H4 x4 y4 _ _ _ f4 _ _ _ _ H5 x5 y5 _ _ _ f5 _ _ _ _ H6 x6 y6 _ _ _ f6
  have g4 := Fr.Fr.mul a a' f4
  have g5 := Fr.Fr.mul g4 a f5
  have ddd : 1 ≤ d * d' * d := Int.mul_pos dd d1
  have g6 : Fr.Fr x6 y6 (u * u' * u) (d * d' * d) := f6.val yd (by obtain ⟨_, _, q⟩ := f1; grind)
  have e3 : x5 = x6 ∧ y5 = y6 := (Fr.Fr.eq_iff g5 g6 ddd ddd).mpr rfl
  tm_at "run"
  exact k _ (by tm_at "kc")
theorem ok_l_compares (T : Txt K mg CShare COddsError CBadShare CBadText CBadBook CBadMove CBadProgram CBadPlan CUnfit CTooLarge CBadEdit) : Fc P w K mg base CX0 3 "_law_compares" ["one", "two", "first", "second"] (spTwo CShare) := by
  refine fc_of T.d_l_compares sc_l_compares (fun vs H Q E h => by obtain ⟨p, q, f, g, t, b, t', b', u, d, u', d', rfl, s, s', h, h', a, a', k⟩ := h; rfl) (fun _ _ _ _ _ _ us hl => match us, hl with | [_, _, _, _], _ => rfl) fun f cdv A outer s H vs Q E hr h => ⟨_, (pss_cons (ps_asg (pv 2) (pgTK K 2 (by rfl) (pgs_cons (pg_name (i := 4) sc_l_compares.nd rfl (Or.inl rfl)) (pgs_cons (pg_name (i := 5) sc_l_compares.nd rfl (Or.inl rfl)) pgs_nil))))
 (pss_cons (ps_asg (pv 3) (pgTK K 2 (by rfl) (pgs_cons (pg_name (i := 6) sc_l_compares.nd rfl (Or.inl rfl)) (pgs_cons (pg_name (i := 7) sc_l_compares.nd rfl (Or.inl rfl)) pgs_nil))))
 (pss_cons (ps_if (pt_not (pt_val (pe_fc (ok_l_answers T) pass0 (hr.mono (by decide)) (pa_cons (pe_mc (ok_Share_at_most T) T.sh.cl pass0 (hr.mono (by decide)) (pv 0) (pa_cons (pv 1) pa_nil)) (pa_cons (pe_cmpR op_le (pe_op op_mulX (pv 4) (pv 7)) (pe_op op_mulX (pv 6) (pv 5)) (nomark _)) pa_nil)))))
 (pss_one (ps_ret pe_bl))
 pss_nil)
 (pss_cons (ps_if (pt_not (pt_val (pe_fc (ok_l_answers T) pass0 (hr.mono (by decide)) (pa_cons (pe_mc (ok_Share_at_most T) T.sh.cl pass0 (hr.mono (by decide)) (pv 1) (pa_cons (pv 0) pa_nil)) (pa_cons (pe_cmpR op_le (pe_op op_mulX (pv 6) (pv 5)) (pe_op op_mulX (pv 4) (pv 7)) (nomark _)) pa_nil)))))
 (pss_one (ps_ret pe_bl))
 pss_nil)
 (pss_one (ps_ret (pe_and (pe_fc (ok_l_answers T) pass0 (hr.mono (by decide)) (pa_cons (pe_mc (ok_Share_at_most T) T.sh.cl pass0 (hr.mono (by decide)) (pv 0) (pa_cons (pv 0) pa_nil)) (pa_cons pe_bl pa_nil))) (pe_one (pe_fc (ok_l_answers T) pass0 (hr.mono (by decide)) (pa_cons (pe_mc (ok_Share_at_most T) T.sh.cl pass0 (hr.mono (by decide)) (pv 0) (pa_cons (pe_sh (ok_Share T) (passAll passL) (hr.mono (by decide)) (pa_cons (pv 4) (pa_cons (pv 5) pa_nil))) pa_nil)) (pa_cons pe_bl pa_nil))))))))))), ?_⟩
  obtain ⟨p, q, f, g, t, b, t', b', u, d, u', d', rfl, s, s', h, h', a, a', k⟩ := h
  have S := T.sh
  have b1 := a.1
  have b1' := a'.1
  have t1 : Bt 200 t := h.bu.le (a.absle h.d1)
  have t2 : Bt 200 b := h.bd.le (by have := a.le h.d1; omega)
  have t3 : Bt 200 t' := h'.bu.le (a'.absle h'.d1)
  have t4 : Bt 200 b' := h'.bd.le (by have := a'.le h'.d1; omega)
  have v1 : Bt 60000 t := t1.mono (by decide)
  have v2 : Bt 60000 b := t2.mono (by decide)
  have v3 : Bt 60000 t' := t3.mono (by decide)
  have v4 : Bt 60000 b' := t4.mono (by decide)
  have hu := h.bu
  have hd := h.bd
  have hu' := h'.bu
  have hd' := h'.bd
  have d1 := h.d1
  have d1' := h'.d1
  have l1 : decide (t * b' ≤ t' * b) = decide (u * d' ≤ u' * d) := decide_eq_decide.mpr (Fr.Fr.le_iff a a' d1 d1')
  have l2 : decide (t' * b ≤ t * b') = decide (u' * d ≤ u * d') := decide_eq_decide.mpr (Fr.Fr.le_iff a' a d1' d1)
  have l3 : decide (t * b ≤ t * b) = true := decide_eq_true (Int.le_refl _)
  tm_at "go"
  rename_i r H1 x y hn hk hs hf
  obtain ⟨rfl, rfl⟩ := (Fr.Fr.eq_iff hf a d1 d1).mpr rfl
  tm_at "run"
  exact k _ hk
theorem ok_law (T : Txt K mg CShare COddsError CBadShare CBadText CBadBook CBadMove CBadProgram CBadPlan CUnfit CTooLarge CBadEdit) {f0 : Addr} {fd : FuncData} (F : Fun K "law" "law" s_law f0 fd) : FnOk P w K mg base CX0 8 f0 fd ["script"] (spLaw K) := by
  refine F.ok sc_law (fun vs H Q E h => by obtain ⟨a, ns, rfl, hs, k⟩ := h; rfl) fun cdv A outer s H vs Q E hr h => ⟨_, (pss_cons (ps_set (i := 1) sc_law.nd rfl (Or.inl rfl) (pe_fc (ok_l_fraction T) pass0 (hr.mono (by decide)) (pa_cons (pe_fc (ok_l_stirred T) pass0 (hr.mono (by decide)) (pa_cons (pv 0) (pa_cons pe_int pa_nil))) pa_nil)))
 (pss_cons (ps_set (i := 2) sc_law.nd rfl (Or.inl rfl) (pe_fc (ok_l_stirred T) pass0 (hr.mono (by decide)) (pa_cons (pv 0) (pa_cons pe_int pa_nil))))
 (pss_cons (ps_set (i := 3) sc_law.nd rfl (Or.inl rfl) (pe_fc (ok_l_second T) pass0 (hr.mono (by decide)) (pa_cons (pv 2) (pa_cons (pv 1) (pa_cons (pe_fc (ok_l_fraction T) pass0 (hr.mono (by decide)) (pa_cons (pe_fc (ok_l_stirred T) pass0 (hr.mono (by decide)) (pa_cons (pv 0) (pa_cons pe_int pa_nil))) pa_nil)) pa_nil)))))
 (pss_cons (ps_set (i := 4) sc_law.nd rfl (Or.inl rfl) (pe_fc (ok_l_low T) pass0 (hr.mono (by decide)) (pa_cons (pe_ix (ixtK K) (pv 1) pe_int (fun _ _ => rfl)) (pa_cons (pe_ix (ixtK K) (pv 1) pe_int (fun _ _ => rfl)) pa_nil))))
 (pss_cons (ps_set (i := 5) sc_law.nd rfl (Or.inl rfl) (pe_fc (ok_l_draw T) pass0 (hr.mono (by decide)) (pa_cons (pv 2) (pa_cons pe_int pa_nil))))
 (C8.pss_cut (ps_if (PW.pt (pw_and (pt_cmpR op_lt (pe_callB (c_max2 rfl) (by rfl) T.n_max b_max (pa_cons (pe_callB c_abs (by rfl) T.n_abs b_abs (pa_cons (pe_ix (ixtK K) (pv 4) pe_int (fun _ _ => rfl)) pa_nil)) (pa_cons (pe_ix (ixtK K) (pv 4) pe_int (fun _ _ => rfl)) pa_nil))) (pe_op op_pow pe_int pe_int) (nomark _)) (pw_and1 (pt_cmpR op_eq (pe_fc (ok_l_draw T) pass0 (hr.mono (by decide)) (pa_cons (pv 2) (pa_cons pe_int pa_nil))) pe_int (nomark _)))))
 (pss_one (ps_set (i := 5) sc_law.nd rfl (Or.inl rfl) (pe_fc (ok_l_draw T) pass0 (hr.mono (by decide)) (pa_cons (pv 2) (pa_cons pe_int pa_nil)))))
 pss_nil)
 (pss_cons (ps_set (i := 6) sc_law.nd rfl (Or.inl rfl) (pe_fc (ok_l_row T) pass0 (hr.mono (by decide)) (pa_cons (pe_fc (ok_l_stirred T) pass0 (hr.mono (by decide)) (pa_cons (pv 0) (pa_cons pe_int pa_nil))) pa_nil)))
 (pss_cons (ps_setLc (i := 7) (own := [("up", 12), ("down", 13)]) (g := (gTup K 2 (gCons (gName 12) (gCons (gName 13) gNil)))) (tt := tYes) rfl sc_law.nd rfl rfl (sw_true rfl rfl rfl (by decide +kernel)) (piLK K (pv 6)) (blkOk_by (own := [("up", 12), ("down", 13)]) (N := ["script", "first", "pool", "second", "low", "exponent", "row", "plus", "one", "two", "lows", "bare", "up", "down"]) (sc := defScope s_law) (by decide +kernel)) (fun _ _ _ _ _ => (pgTK K 2 (by rfl) (pgs_cons (pg_name (i := 12) sc_law.nd rfl (Or.inl rfl)) (pgs_cons (pg_name (i := 13) sc_law.nd rfl (Or.inl rfl)) pgs_nil)))) (fun _ _ _ _ _ => pts_nil) (fun _ _ _ _ _ => (pe_tup (pa_cons (pe_callB c_abs (by rfl) T.n_abs b_abs (pa_cons (pv 12) pa_nil)) (pa_cons (pv 13) pa_nil)))))
 (pss_cons (ps_set (i := 8) sc_law.nd rfl (Or.inl rfl) (pe_sh (ok_Share T) (passAll passL) (hr.mono (by decide)) (pa_cons (pe_ix (ixtK K) (pv 1) pe_int (fun _ _ => rfl)) (pa_cons (pe_ix (ixtK K) (pv 1) pe_int (fun _ _ => rfl)) pa_nil))))
 (pss_cons (ps_set (i := 9) sc_law.nd rfl (Or.inl rfl) (pe_sh (ok_Share T) (passAll passL) (hr.mono (by decide)) (pa_cons (pe_ix (ixtK K) (pv 3) pe_int (fun _ _ => rfl)) (pa_cons (pe_ix (ixtK K) (pv 3) pe_int (fun _ _ => rfl)) pa_nil))))
 (pss_cons (ps_if (PW.pt (pw_or (pt_not (pt_val (pe_fc (ok_l_products T) pass0 (hr.mono (by decide)) (pa_cons (pv 8) (pa_cons (pv 9) (pa_cons (pv 1) (pa_cons (pv 3) pa_nil))))))) (pw_or1 (pt_not (pt_val (pe_fc (ok_l_compares T) pass0 (hr.mono (by decide)) (pa_cons (pv 8) (pa_cons (pv 9) (pa_cons (pv 1) (pa_cons (pv 3) pa_nil))))))))))
 (pss_one (ps_ret pe_bl))
 pss_nil)
 (pss_cons (ps_if (pt_not (pt_val (pe_fc (ok_l_fields T) pass0 (hr.mono (by decide)) (pa_cons (pe_fc (ok_power T) pass0 (hr.mono (by decide)) (pa_cons (pv 8) (pa_cons (pv 5) pa_nil))) (pa_cons (pe_fc (ok_l_power_due T) pass0 (hr.mono (by decide)) (pa_cons (pv 4) (pa_cons (pv 5) pa_nil))) pa_nil)))))
 (pss_one (ps_ret pe_bl))
 pss_nil)
 (pss_cons (ps_if (pt_not (pt_val (pe_fc (ok_l_fields T) pass0 (hr.mono (by decide)) (pa_cons (pe_fc (ok_power T) pass0 (hr.mono (by decide)) (pa_cons (pv 8) (pa_cons (pe_op op_add (pv 5) pe_int) pa_nil))) (pa_cons (pe_fc (ok_l_power_due T) pass0 (hr.mono (by decide)) (pa_cons (pv 4) (pa_cons (pe_op op_add (pv 5) pe_int) pa_nil))) pa_nil)))))
 (pss_one (ps_ret pe_bl))
 pss_nil)
 (pss_cons (ps_if (PW.pt (pw_or (pt_not (pt_val (pe_fc (ok_l_fields T) pass0 (hr.mono (by decide)) (pa_cons (pe_fc (ok_power T) pass0 (hr.mono (by decide)) (pa_cons (pv 8) (pa_cons pe_int pa_nil))) (pa_cons (pe_tup (pa_cons pe_int (pa_cons pe_int pa_nil))) pa_nil))))) (pw_or1 (pt_not (pt_val (pe_fc (ok_l_fields T) pass0 (hr.mono (by decide)) (pa_cons (pe_fc (ok_power T) pass0 (hr.mono (by decide)) (pa_cons (pe_sh1 (ok_Share T) (passAll passL) (hr.mono (by decide)) (pa_cons pe_int pa_nil)) (pa_cons pe_int pa_nil))) (pa_cons (pe_tup (pa_cons pe_int (pa_cons pe_int pa_nil))) pa_nil))))))))
 (pss_one (ps_ret pe_bl))
 pss_nil)
 (pss_cons (ps_setLc (i := 10) (own := [("up", 12), ("down", 13)]) (g := (gTup K 2 (gCons (gName 12) (gCons (gName 13) gNil)))) (tt := tYes) rfl sc_law.nd rfl rfl (sw_true rfl rfl rfl (by decide +kernel)) (piLK K (pv 6)) (blkOk_by (own := [("up", 12), ("down", 13)]) (N := ["script", "first", "pool", "second", "low", "exponent", "row", "plus", "one", "two", "lows", "bare", "up", "down"]) (sc := defScope s_law) (by decide +kernel)) (fun _ _ _ _ _ => (pgTK K 2 (by rfl) (pgs_cons (pg_name (i := 12) sc_law.nd rfl (Or.inl rfl)) (pgs_cons (pg_name (i := 13) sc_law.nd rfl (Or.inl rfl)) pgs_nil)))) (fun _ _ _ _ _ => pts_nil) (fun _ _ _ _ _ => (pe_fc (ok_l_low T) pass0 (hr.mono (by decide)) (pa_cons (pv 12) (pa_cons (pv 13) pa_nil)))))
 (pss_cons (ps_setLc (i := 11) (own := [("up", 12), ("down", 13)]) (g := (gTup K 2 (gCons (gName 12) (gCons (gName 13) gNil)))) (tt := tYes) rfl sc_law.nd rfl rfl (sw_true rfl rfl rfl (by decide +kernel)) (piLK K (pv 10)) (blkOk_by (own := [("up", 12), ("down", 13)]) (N := ["script", "first", "pool", "second", "low", "exponent", "row", "plus", "one", "two", "lows", "bare", "up", "down"]) (sc := defScope s_law) (by decide +kernel)) (fun _ _ _ _ _ => (pgTK K 2 (by rfl) (pgs_cons (pg_name (i := 12) sc_law.nd rfl (Or.inl rfl)) (pgs_cons (pg_name (i := 13) sc_law.nd rfl (Or.inl rfl)) pgs_nil)))) (fun _ _ _ _ _ => pts_nil) (fun _ _ _ _ _ => (pe_tup (pa_cons (pe_callB c_abs (by rfl) T.n_abs b_abs (pa_cons (pv 12) pa_nil)) (pa_cons (pv 13) pa_nil)))))
 (pss_cons (ps_if (PW.pt (pw_or (pt_not (pt_val (pe_fc (ok_l_mean_holds T) pass0 (hr.mono (by decide)) (pa_cons (pv 6) (pa_cons (pv 10) pa_nil))))) (pw_or (pt_not (pt_val (pe_fc (ok_l_mean_holds T) pass0 (hr.mono (by decide)) (pa_cons (pv 7) (pa_cons (pv 11) pa_nil))))) (pw_or1 (pt_not (pt_val (pe_fc (ok_l_greatest_holds T) pass0 (hr.mono (by decide)) (pa_cons (pv 7) (pa_cons (pv 11) pa_nil)))))))))
 (pss_one (ps_ret pe_bl))
 pss_nil)
 (pss_one (ps_ret (pe_and (pe_fc (ok_l_fields T) pass0 (hr.mono (by decide)) (pa_cons (pv 8) (pa_cons (pv 4) pa_nil))) (pe_one (pe_fc (ok_l_fields T) pass0 (hr.mono (by decide)) (pa_cons (pv 9) (pa_cons (pe_fc (ok_l_low T) pass0 (hr.mono (by decide)) (pa_cons (pe_ix (ixtK K) (pv 3) pe_int (fun _ _ => rfl)) (pa_cons (pe_ix (ixtK K) (pv 3) pe_int (fun _ _ => rfl)) pa_nil))) pa_nil)))))))))))))))))))))))), ?_⟩
  obtain ⟨a, ns, rfl, hs, k⟩ := h
  have S := T.sh
  tm_at "go"
  rename_i q1 H1 hn1 hk1 hq1 f u d H2 hk2 hq2 hf pl H3 hn3 hk3 hq3 q3 H4 hn4 hk4 hq4 f0 u0 d0 H5 hk5 hq5 hf0 g u' d' H6 hk6 hq6 hg
  have d1 := hf.d1
  have d1' := hg.d1
  have bd : Bt 8500 d := hf.bd.mono (by decide)
  have bd' : Bt 8500 d' := hg.bd.mono (by decide)
  have nf : f ≠ pl := ne_of_none hf.e hn3
  have P6 : Pool H6 pl := by tm_at "lp"
  have ng : g ≠ pl := hg.ne P6
  have F6 : FrT H6 f u d := by tm_at "ft"
  have S6 : Scr K H6 a ns := by tm_at "ls"
  have np : a ≠ pl ∨ ∀ H', SqL K H' a (ns.map V.int) := by
    have S2 : Scr K H2 a ns := by tm_at "ls"
    rcases S2 with ⟨o, e⟩ | h
    · exact .inl (ne_of_none e hn3)
    · exact .inr h
  clear hn1 hk1 hq1 hk2 hq2 hn3 hk3 hq3 hn4 hk4 hq4 hk5 hq5 hf0 hk6 hq6 hs
  tm_at "run"
  refine u_cut (fun σ H' => ∃ (L : Addr) (t b e : Int) (n : Nat), σ = [some (.ref a), some (.ref f), some (.ref pl), some (.ref g), some (.ref L), some (.int e), none, none, none, none, none, none, none, none] ∧ Scr K H' a ns ∧ FrT H' f u d ∧ FrT H' g u' d' ∧ H' L = some (.tup [.int t, .int b]) ∧ Fr.Fr t b u d ∧ Bt n t ∧ Bt n b ∧ 0 ≤ e ∧ e ≤ 99 ∧ n * (e.toNat + 2) ≤ 3900) ?_ ?_
  · rename_i L H7 t b hn7 hk7 ho7 hf7 e H8 e0 e1 hk8 hp8
    have t1 : Bt 200 t := hf.bu.le (hf7.absle d1)
    have t2 : Bt 200 b := hf.bd.le (by have := hf7.le d1; have := hf7.1; omega)
    have nL : L ≠ pl := (Pool.ne hn7 P6).symm
    have scr : ∀ H1 H2, Kp [pl] H1 H2 → Scr K H1 a ns → Scr K H2 a ns := by
      intro H1 H2 k12 s1
      rcases np with n | n
      · rcases s1 with ⟨o, e⟩ | h
        · exact .inl ⟨o, k12.get1 n e⟩
        · exact .inr h
      · exact .inr n
    have S8 := scr _ _ hk8 (S6.kp0 hk7)
    have F8 : FrT H8 f u d := by tm_at "ft"
    have G8 : FrT H8 g u' d' := by tm_at "ft"
    have L8 : H8 L = some (.tup [.int t, .int b]) := by tm_at "lk"
    clear hk7 hk8 ho7 S6 F6 P6 hg
    have b0 := hf7.1
    tm_at "run"
    · rename_i m1 a1 a2 m2 a3 a4 a5 hm x1 I1 x0 x2 k1 p1 hx e' I2 e0' e1' k2 p2
      exact ⟨L, t, b, e', 30, rfl, scr _ _ k2 (scr _ _ k1 S8), by tm_at "ft", by tm_at "ft", by tm_at "lk", hf7, bt30 (by omega), bt30 (by omega), e0', by omega, by omega⟩
    · rename_i m1 a1 a2 m2 a3 a4 a5 hm x1 I1 x0 x2 k1 p1 hx
      exact ⟨L, t, b, e, 200, rfl, scr _ _ k1 S8, by tm_at "ft", by tm_at "ft", by tm_at "lk", hf7, t1, t2, e0, by omega, by omega⟩
    · exact ⟨L, t, b, e, 200, rfl, S8, F8, G8, L8, hf7, t1, t2, e0, by omega, by omega⟩
  · clear hf hg F6 S6 P6 np
    rintro σ H7 ⟨L, t, b, e, n, rfl, hs7, F7, G7, eL, fL, bt, bb, e0, e1, ne⟩
    tm_at "run"
    rename_i q8 H8 hn8 hk8 hp8 R ws fs H9 hk9 hp9 eR row h6
    have F9 : FrT H9 f u d := by tm_at "ft"
    have G9 : FrT H9 g u' d' := by tm_at "ft"
    have L9 : H9 L = some (.tup [.int t, .int b]) := by tm_at "lk"
    have ho := row.ok
    have lw : ws.length = fs.length := Paired.length row
    clear hn8 hk8 hp8 hk9 hp9 F7 G7 eL hs7
    refine l_lcL ws (fun D i H' => ∃ gs, Kp [] H9 H' ∧ H' D = some (.lst gs) ∧ FrRow H' gs ((fs.map ab).take i)) ?_ ?_ ?_ ?_
    · intro D H' hD hk hz
      exact ⟨[], hk, hz, .nil⟩
    · rintro D i H' _ ⟨gs, c, _⟩
      exact sql (by tm_at "lk")
    · rintro D i v H3 hD hx ⟨gs, c, eD, rw3⟩
      obtain ⟨f0, hf0, a0, rfl, F0⟩ := paired_get row hx
      have hi := (List.getElem?_eq_some_iff.mp hf0).1
      have lg : gs.length = i := (Paired.length rw3).trans (by rw [List.length_take, List.length_map]; omega)
      have F3 := F0.kp0 c
      tm_at "run"
      rename_i m m0 m1 r I1 rn c1 o1 I2 c2 e2
      obtain rfl : m = (f0.1.natAbs : Int) := by omega
      refine ⟨_, (c.trans c1).low' c2 hD .refl, e2, ?_⟩
      rw [Fr.take_more (x := ab f0) (by rw [List.getElem?_map, hf0]; rfl)]
      exact paired_more (show FrRow I2 gs _ by tm_at "fr") ⟨_, rfl, (show I2 r = some (.tup [.int (f0.1.natAbs : Int), .int f0.2]) by tm_at "lk"), F0.d1, bt_abs F0.bu, F0.bd⟩
    · rintro D1 H10 hD1 ⟨gs, c10, eD1, plus⟩
      rw [lw, ← List.length_map (f := ab), List.take_length] at plus
      have h6' : (fs.map ab).length ≤ 6 := by rw [List.length_map]; exact h6
      have z0 : 0 ≤ e ∧ e ≤ 100 ∧ n * (e.toNat + 1) ≤ 3900 := ⟨e0, by omega, Nat.le_trans (Nat.mul_le_mul_left n (by omega)) ne⟩
      have z1 : 0 ≤ e + 1 ∧ e + 1 ≤ 100 ∧ n * ((e + 1).toNat + 1) ≤ 3900 := ⟨by omega, by omega, Nat.le_trans (Nat.mul_le_mul_left n (by omega)) ne⟩
      have z2 : 0 ≤ (0 : Int) ∧ (0 : Int) ≤ 100 ∧ n * (Int.toNat 0 + 1) ≤ 3900 := ⟨by omega, by omega, Nat.le_trans (Nat.mul_le_mul_left n (by omega)) ne⟩
      have w0 : t ^ (Int.toNat 0) = 1 ∧ b ^ (Int.toNat 0) = 1 := ⟨Int.pow_zero t, Int.pow_zero b⟩
      tm_at "run"
      rename_i one H11 t1 b1 nn1 c11 s1 f1 two H12 t2 b2 nn2 c12 s2 f2 H13 c13 H14 c14
      obtain ⟨rfl, rfl⟩ := (Fr.Fr.eq_iff f1 fL d1 d1).mpr rfl
      tm_at "run"
      rename_i Ha ts bs _ _ _ fz
      obtain ⟨rfl, rfl⟩ := Fr.Fr.self_eq (t := 0) (b := 1) (u := 0) (d := 1) ⟨by decide, by decide, by decide⟩ fz
      have z3 : 0 ≤ (0 : Int) ∧ (0 : Int) ≤ 100 ∧ 1 * (Int.toNat 0 + 1) ≤ 3900 := ⟨by omega, by omega, by decide⟩
      have bz : Bt 1 (0 : Int) := by unfold Bt; decide
      have bo : Bt 1 (1 : Int) := by unfold Bt; decide
      have w1 : (0 : Int) ^ (Int.toNat 0) = 1 ∧ (1 : Int) ^ (Int.toNat 0) = 1 := ⟨Int.pow_zero 0, Int.pow_zero 1⟩
      tm_at "run"
      rename_i Hb _ _ _
      have rowB : FrRow Hb ws fs := by tm_at "fr"
      have plusB : FrRow Hb gs (fs.map ab) := by tm_at "fr"
      have FB : FrT Hb f u d := by tm_at "ft"
      have GB : FrT Hb g u' d' := by tm_at "ft"
      have LB : Hb L = some (.tup [.int t1, .int b1]) := by tm_at "lk"
      have oneB : ShAt CShare Hb one t1 b1 := by tm_at "sh"
      have twoB : ShAt CShare Hb two t2 b2 := by tm_at "sh"
      have eRB : Hb R = some (.lst ws) := by tm_at "lk"
      have eDB : Hb D1 = some (.lst gs) := by tm_at "lk"
      refine l_lcL ws (fun D i H' => ∃ zs, Kp [] Hb H' ∧ H' D = some (.lst zs) ∧ LowRow H' zs (fs.take i)) ?_ ?_ ?_ ?_
      · intro D H' hD hk hz
        exact ⟨[], hk, hz, .nil⟩
      · rintro D i H' _ ⟨zs, c, _⟩
        exact sql (by tm_at "lk")
      · rintro D i v H3 hD hx ⟨zs, c, eD, rw3⟩
        obtain ⟨f0, hf0, a0, rfl, F0⟩ := paired_get rowB hx
        have hi := (List.getElem?_eq_some_iff.mp hf0).1
        have lg : zs.length = i := (Paired.length rw3).trans (by rw [List.length_take]; omega)
        have F3 := F0.kp0 c
        have fd1 := F0.d1
        have fbd : Bt 8500 f0.2 := F0.bd.mono (by decide)
        tm_at "run"
        rename_i r I1 x1 y1 rn c1 o1 g1 I2 c2 e2
        refine ⟨_, (c.trans c1).low' c2 hD .refl, e2, ?_⟩
        rw [Fr.take_more hf0]
        exact paired_more (show LowRow I2 zs _ by tm_at "lr") ⟨_, _, _, rfl, (by tm_at "lk"), g1⟩
      · rintro D2 Hc hD2 ⟨zs, cc, eD2, low2⟩
        rw [lw, List.take_length] at low2
        have lz : zs.length = fs.length := Paired.length low2
        tm_at "run"
        refine l_lcL zs (fun D i H' => ∃ ys, Kp [] Hc H' ∧ H' D = some (.lst ys) ∧ LowRow H' ys ((fs.map ab).take i)) ?_ ?_ ?_ ?_
        · intro D H' hD hk hz
          exact ⟨[], hk, hz, .nil⟩
        · rintro D i H' _ ⟨ys, c, _⟩
          exact sql (by tm_at "lk")
        · rintro D i v H3 hD hx ⟨ys, c, eD, rw3⟩
          obtain ⟨f0, hf0, a0, t0, b0, rfl, e0', fr0⟩ := paired_get low2 hx
          have hi := (List.getElem?_eq_some_iff.mp hf0).1
          have lg : ys.length = i := (Paired.length rw3).trans (by rw [List.length_take, List.length_map]; omega)
          have e3 := c.get0 e0'
          tm_at "run"
          rename_i m m0 m1 r I1 rn c1 o1 I2 c2 e2
          obtain rfl : m = (t0.natAbs : Int) := by omega
          refine ⟨_, (c.trans c1).low' c2 hD .refl, e2, ?_⟩
          rw [Fr.take_more (x := ab f0) (by rw [List.getElem?_map, hf0]; rfl)]
          exact paired_more (show LowRow I2 ys _ by tm_at "lr") ⟨_, (t0.natAbs : Int), b0, rfl, (by tm_at "lk"), fr0.abs (ho _ (List.mem_of_getElem? hf0)).1⟩
        · rintro D3 Hd hD3 ⟨ys, cd, eD3, bare⟩
          rw [lz, ← List.length_map (f := ab), List.take_length] at bare
          tm_at "run"
          rename_i He x3 y3 _ _ _ g3
          have e5 : t2 = x3 ∧ b2 = y3 := (Fr.Fr.eq_iff f2 g3 d1' d1').mpr rfl
          tm_at "run"
          exact k _

end
end My
set_option Elab.async false
set_option linter.all false
set_option autoImplicit false
set_option maxRecDepth 100000
set_option maxHeartbeats 4000000
namespace My
open PySem PySem.Spec PyProof.Rows L2 U
theorem mk_all {P : Program} {w : World} {K : PySem.W.Frag} {h : Heap} {mg : Str → Option Value} {fa : Addr} (X : K.In h) (G : h.Ns mainGlobals mg) (hfa : mg "law" = some (.ref fa))
    {CShare : Addr} {COddsError : Addr} {CBadShare : Addr} {CBadText : Addr} {CBadBook : Addr} {CBadMove : Addr} {CBadProgram : Addr} {CBadPlan : Addr} {CUnfit : Addr} {CTooLarge : Addr} {CBadEdit : Addr} {f_l_int : Addr} {od_l_int an_l_int : Option Addr} {sl_l_int : Array (Option Value)} {oc_l_int kV_l_int dc_l_int pm_l_int cd_l_int ct_l_int : Value} {f_l_pool : Addr} {od_l_pool an_l_pool : Option Addr} {sl_l_pool : Array (Option Value)} {oc_l_pool kV_l_pool dc_l_pool pm_l_pool cd_l_pool ct_l_pool : Value} {f_l_stirred : Addr} {od_l_stirred an_l_stirred : Option Addr} {sl_l_stirred : Array (Option Value)} {oc_l_stirred kV_l_stirred dc_l_stirred pm_l_stirred cd_l_stirred ct_l_stirred : Value} {f_l_draw : Addr} {od_l_draw an_l_draw : Option Addr} {sl_l_draw : Array (Option Value)} {oc_l_draw kV_l_draw dc_l_draw pm_l_draw cd_l_draw ct_l_draw : Value} {f_l_size : Addr} {od_l_size an_l_size : Option Addr} {sl_l_size : Array (Option Value)} {oc_l_size kV_l_size dc_l_size pm_l_size cd_l_size ct_l_size : Value} {f_l_fraction : Addr} {od_l_fraction an_l_fraction : Option Addr} {sl_l_fraction : Array (Option Value)} {oc_l_fraction kV_l_fraction dc_l_fraction pm_l_fraction cd_l_fraction ct_l_fraction : Value} {f_l_second : Addr} {od_l_second an_l_second : Option Addr} {sl_l_second : Array (Option Value)} {oc_l_second kV_l_second dc_l_second pm_l_second cd_l_second ct_l_second : Value} {f_l_answers : Addr} {od_l_answers an_l_answers : Option Addr} {sl_l_answers : Array (Option Value)} {oc_l_answers kV_l_answers dc_l_answers pm_l_answers cd_l_answers ct_l_answers : Value} {f_law : Addr} {od_law an_law : Option Addr} {sl_law : Array (Option Value)} {oc_law kV_law dc_law pm_law cd_law ct_law : Value} {f_mean : Addr} {od_mean an_mean : Option Addr} {sl_mean : Array (Option Value)} {oc_mean kV_mean dc_mean pm_mean cd_mean ct_mean : Value} {f_greatest : Addr} {od_greatest an_greatest : Option Addr} {sl_greatest : Array (Option Value)} {oc_greatest kV_greatest dc_greatest pm_greatest cd_greatest ct_greatest : Value} {f_power : Addr} {od_power an_power : Option Addr} {sl_power : Array (Option Value)} {oc_power kV_power dc_power pm_power cd_power ct_power : Value} {f_l_row : Addr} {od_l_row an_l_row : Option Addr} {sl_l_row : Array (Option Value)} {oc_l_row kV_l_row dc_l_row pm_l_row cd_l_row ct_l_row : Value} {f_l_low : Addr} {od_l_low an_l_low : Option Addr} {sl_l_low : Array (Option Value)} {oc_l_low kV_l_low dc_l_low pm_l_low cd_l_low ct_l_low : Value} {f_l_fields : Addr} {od_l_fields an_l_fields : Option Addr} {sl_l_fields : Array (Option Value)} {oc_l_fields kV_l_fields dc_l_fields pm_l_fields cd_l_fields ct_l_fields : Value} {f_l_no_mean : Addr} {od_l_no_mean an_l_no_mean : Option Addr} {sl_l_no_mean : Array (Option Value)} {oc_l_no_mean kV_l_no_mean dc_l_no_mean pm_l_no_mean cd_l_no_mean ct_l_no_mean : Value} {f_l_mean_holds : Addr} {od_l_mean_holds an_l_mean_holds : Option Addr} {sl_l_mean_holds : Array (Option Value)} {oc_l_mean_holds kV_l_mean_holds dc_l_mean_holds pm_l_mean_holds cd_l_mean_holds ct_l_mean_holds : Value} {f_l_kept : Addr} {od_l_kept an_l_kept : Option Addr} {sl_l_kept : Array (Option Value)} {oc_l_kept kV_l_kept dc_l_kept pm_l_kept cd_l_kept ct_l_kept : Value} {f_l_greatest_holds : Addr} {od_l_greatest_holds an_l_greatest_holds : Option Addr} {sl_l_greatest_holds : Array (Option Value)} {oc_l_greatest_holds kV_l_greatest_holds dc_l_greatest_holds pm_l_greatest_holds cd_l_greatest_holds ct_l_greatest_holds : Value} {f_l_power_due : Addr} {od_l_power_due an_l_power_due : Option Addr} {sl_l_power_due : Array (Option Value)} {oc_l_power_due kV_l_power_due dc_l_power_due pm_l_power_due cd_l_power_due ct_l_power_due : Value} {f_l_products : Addr} {od_l_products an_l_products : Option Addr} {sl_l_products : Array (Option Value)} {oc_l_products kV_l_products dc_l_products pm_l_products cd_l_products ct_l_products : Value} {f_l_compares : Addr} {od_l_compares an_l_compares : Option Addr} {sl_l_compares : Array (Option Value)} {oc_l_compares kV_l_compares dc_l_compares pm_l_compares cd_l_compares ct_l_compares : Value} {f_Share___add__ : Addr} {od_Share___add__ an_Share___add__ : Option Addr} {sl_Share___add__ : Array (Option Value)} {oc_Share___add__ kV_Share___add__ dc_Share___add__ pm_Share___add__ cd_Share___add__ ct_Share___add__ : Value} {f_Share___mul__ : Addr} {od_Share___mul__ an_Share___mul__ : Option Addr} {sl_Share___mul__ : Array (Option Value)} {oc_Share___mul__ kV_Share___mul__ dc_Share___mul__ pm_Share___mul__ cd_Share___mul__ ct_Share___mul__ : Value} {f_Share_at_most : Addr} {od_Share_at_most an_Share_at_most : Option Addr} {sl_Share_at_most : Array (Option Value)} {oc_Share_at_most kV_Share_at_most dc_Share_at_most pm_Share_at_most cd_Share_at_most ct_Share_at_most : Value} {Tp : Addr} {dT : Option Addr} {tkT : Tok} {nT : Nat} {slT : Array (Option Value)} {f_init : Addr} {od_init an_init : Option Addr} {sl_init : Array (Option Value)} {oc_init kV_init dc_init pm_init cd_init ct_init : Value}
        (gCShare : PySem.W.nsIn K mainGlobals "Share" = some (some (.ref CShare)))
    (gCOddsError : PySem.W.nsIn K mainGlobals "OddsError" = some (some (.ref COddsError)))
    (gCBadShare : PySem.W.nsIn K mainGlobals "BadShare" = some (some (.ref CBadShare)))
    (gCBadText : PySem.W.nsIn K mainGlobals "BadText" = some (some (.ref CBadText)))
    (gCBadBook : PySem.W.nsIn K mainGlobals "BadBook" = some (some (.ref CBadBook)))
    (gCBadMove : PySem.W.nsIn K mainGlobals "BadMove" = some (some (.ref CBadMove)))
    (gCBadProgram : PySem.W.nsIn K mainGlobals "BadProgram" = some (some (.ref CBadProgram)))
    (gCBadPlan : PySem.W.nsIn K mainGlobals "BadPlan" = some (some (.ref CBadPlan)))
    (gCUnfit : PySem.W.nsIn K mainGlobals "Unfit" = some (some (.ref CUnfit)))
    (gCTooLarge : PySem.W.nsIn K mainGlobals "TooLarge" = some (some (.ref CTooLarge)))
    (gCBadEdit : PySem.W.nsIn K mainGlobals "BadEdit" = some (some (.ref CBadEdit)))
    (hn0 : PySem.W.specialIn K (.builtin "object.__class__") "__get__" = some (some (.builtin "getset_descriptor.__get__")))
    (ht0 : PySem.W.takesIn K (.builtin "object.__class__") = some true)
    (a_l_int : PySem.W.nsIn K mainGlobals "_law_int" = some (some (.ref f_l_int)))
    (l_l_int : K.lookup f_l_int = some ⟨oc_l_int, od_l_int, .func (PySem.W.fnOf "_law_int" "_law_int" (defArgs s_l_int) (defBody s_l_int) (defScope s_l_int) .none kV_l_int dc_l_int pm_l_int an_l_int cd_l_int ct_l_int), sl_l_int⟩)
    (c_l_int : PySem.W.codeIn K cd_l_int "_law_int" = true)
    (k_l_int : PySem.W.keepIn K (.ref f_l_int) = true)
    (a_l_pool : PySem.W.nsIn K mainGlobals "_law_pool" = some (some (.ref f_l_pool)))
    (l_l_pool : K.lookup f_l_pool = some ⟨oc_l_pool, od_l_pool, .func (PySem.W.fnOf "_law_pool" "_law_pool" (defArgs s_l_pool) (defBody s_l_pool) (defScope s_l_pool) .none kV_l_pool dc_l_pool pm_l_pool an_l_pool cd_l_pool ct_l_pool), sl_l_pool⟩)
    (c_l_pool : PySem.W.codeIn K cd_l_pool "_law_pool" = true)
    (k_l_pool : PySem.W.keepIn K (.ref f_l_pool) = true)
    (a_l_stirred : PySem.W.nsIn K mainGlobals "_law_stirred" = some (some (.ref f_l_stirred)))
    (l_l_stirred : K.lookup f_l_stirred = some ⟨oc_l_stirred, od_l_stirred, .func (PySem.W.fnOf "_law_stirred" "_law_stirred" (defArgs s_l_stirred) (defBody s_l_stirred) (defScope s_l_stirred) .none kV_l_stirred dc_l_stirred pm_l_stirred an_l_stirred cd_l_stirred ct_l_stirred), sl_l_stirred⟩)
    (c_l_stirred : PySem.W.codeIn K cd_l_stirred "_law_stirred" = true)
    (k_l_stirred : PySem.W.keepIn K (.ref f_l_stirred) = true)
    (a_l_draw : PySem.W.nsIn K mainGlobals "_law_draw" = some (some (.ref f_l_draw)))
    (l_l_draw : K.lookup f_l_draw = some ⟨oc_l_draw, od_l_draw, .func (PySem.W.fnOf "_law_draw" "_law_draw" (defArgs s_l_draw) (defBody s_l_draw) (defScope s_l_draw) .none kV_l_draw dc_l_draw pm_l_draw an_l_draw cd_l_draw ct_l_draw), sl_l_draw⟩)
    (c_l_draw : PySem.W.codeIn K cd_l_draw "_law_draw" = true)
    (k_l_draw : PySem.W.keepIn K (.ref f_l_draw) = true)
    (a_l_size : PySem.W.nsIn K mainGlobals "_law_size" = some (some (.ref f_l_size)))
    (l_l_size : K.lookup f_l_size = some ⟨oc_l_size, od_l_size, .func (PySem.W.fnOf "_law_size" "_law_size" (defArgs s_l_size) (defBody s_l_size) (defScope s_l_size) .none kV_l_size dc_l_size pm_l_size an_l_size cd_l_size ct_l_size), sl_l_size⟩)
    (c_l_size : PySem.W.codeIn K cd_l_size "_law_size" = true)
    (k_l_size : PySem.W.keepIn K (.ref f_l_size) = true)
    (a_l_fraction : PySem.W.nsIn K mainGlobals "_law_fraction" = some (some (.ref f_l_fraction)))
    (l_l_fraction : K.lookup f_l_fraction = some ⟨oc_l_fraction, od_l_fraction, .func (PySem.W.fnOf "_law_fraction" "_law_fraction" (defArgs s_l_fraction) (defBody s_l_fraction) (defScope s_l_fraction) .none kV_l_fraction dc_l_fraction pm_l_fraction an_l_fraction cd_l_fraction ct_l_fraction), sl_l_fraction⟩)
    (c_l_fraction : PySem.W.codeIn K cd_l_fraction "_law_fraction" = true)
    (k_l_fraction : PySem.W.keepIn K (.ref f_l_fraction) = true)
    (a_l_second : PySem.W.nsIn K mainGlobals "_law_second" = some (some (.ref f_l_second)))
    (l_l_second : K.lookup f_l_second = some ⟨oc_l_second, od_l_second, .func (PySem.W.fnOf "_law_second" "_law_second" (defArgs s_l_second) (defBody s_l_second) (defScope s_l_second) .none kV_l_second dc_l_second pm_l_second an_l_second cd_l_second ct_l_second), sl_l_second⟩)
    (c_l_second : PySem.W.codeIn K cd_l_second "_law_second" = true)
    (k_l_second : PySem.W.keepIn K (.ref f_l_second) = true)
    (a_l_answers : PySem.W.nsIn K mainGlobals "_law_answers" = some (some (.ref f_l_answers)))
    (l_l_answers : K.lookup f_l_answers = some ⟨oc_l_answers, od_l_answers, .func (PySem.W.fnOf "_law_answers" "_law_answers" (defArgs s_l_answers) (defBody s_l_answers) (defScope s_l_answers) .none kV_l_answers dc_l_answers pm_l_answers an_l_answers cd_l_answers ct_l_answers), sl_l_answers⟩)
    (c_l_answers : PySem.W.codeIn K cd_l_answers "_law_answers" = true)
    (k_l_answers : PySem.W.keepIn K (.ref f_l_answers) = true)
    (a_law : PySem.W.nsIn K mainGlobals "law" = some (some (.ref f_law)))
    (l_law : K.lookup f_law = some ⟨oc_law, od_law, .func (PySem.W.fnOf "law" "law" (defArgs s_law) (defBody s_law) (defScope s_law) .none kV_law dc_law pm_law an_law cd_law ct_law), sl_law⟩)
    (c_law : PySem.W.codeIn K cd_law "law" = true)
    (k_law : PySem.W.keepIn K (.ref f_law) = true)
    (a_mean : PySem.W.nsIn K mainGlobals "mean" = some (some (.ref f_mean)))
    (l_mean : K.lookup f_mean = some ⟨oc_mean, od_mean, .func (PySem.W.fnOf "mean" "mean" (defArgs s_mean) (defBody s_mean) (defScope s_mean) .none kV_mean dc_mean pm_mean an_mean cd_mean ct_mean), sl_mean⟩)
    (c_mean : PySem.W.codeIn K cd_mean "mean" = true)
    (k_mean : PySem.W.keepIn K (.ref f_mean) = true)
    (a_greatest : PySem.W.nsIn K mainGlobals "greatest" = some (some (.ref f_greatest)))
    (l_greatest : K.lookup f_greatest = some ⟨oc_greatest, od_greatest, .func (PySem.W.fnOf "greatest" "greatest" (defArgs s_greatest) (defBody s_greatest) (defScope s_greatest) .none kV_greatest dc_greatest pm_greatest an_greatest cd_greatest ct_greatest), sl_greatest⟩)
    (c_greatest : PySem.W.codeIn K cd_greatest "greatest" = true)
    (k_greatest : PySem.W.keepIn K (.ref f_greatest) = true)
    (a_power : PySem.W.nsIn K mainGlobals "power" = some (some (.ref f_power)))
    (l_power : K.lookup f_power = some ⟨oc_power, od_power, .func (PySem.W.fnOf "power" "power" (defArgs s_power) (defBody s_power) (defScope s_power) .none kV_power dc_power pm_power an_power cd_power ct_power), sl_power⟩)
    (c_power : PySem.W.codeIn K cd_power "power" = true)
    (k_power : PySem.W.keepIn K (.ref f_power) = true)
    (a_l_row : PySem.W.nsIn K mainGlobals "_law_row" = some (some (.ref f_l_row)))
    (l_l_row : K.lookup f_l_row = some ⟨oc_l_row, od_l_row, .func (PySem.W.fnOf "_law_row" "_law_row" (defArgs s_l_row) (defBody s_l_row) (defScope s_l_row) .none kV_l_row dc_l_row pm_l_row an_l_row cd_l_row ct_l_row), sl_l_row⟩)
    (c_l_row : PySem.W.codeIn K cd_l_row "_law_row" = true)
    (k_l_row : PySem.W.keepIn K (.ref f_l_row) = true)
    (a_l_low : PySem.W.nsIn K mainGlobals "_law_low" = some (some (.ref f_l_low)))
    (l_l_low : K.lookup f_l_low = some ⟨oc_l_low, od_l_low, .func (PySem.W.fnOf "_law_low" "_law_low" (defArgs s_l_low) (defBody s_l_low) (defScope s_l_low) .none kV_l_low dc_l_low pm_l_low an_l_low cd_l_low ct_l_low), sl_l_low⟩)
    (c_l_low : PySem.W.codeIn K cd_l_low "_law_low" = true)
    (k_l_low : PySem.W.keepIn K (.ref f_l_low) = true)
    (a_l_fields : PySem.W.nsIn K mainGlobals "_law_fields" = some (some (.ref f_l_fields)))
    (l_l_fields : K.lookup f_l_fields = some ⟨oc_l_fields, od_l_fields, .func (PySem.W.fnOf "_law_fields" "_law_fields" (defArgs s_l_fields) (defBody s_l_fields) (defScope s_l_fields) .none kV_l_fields dc_l_fields pm_l_fields an_l_fields cd_l_fields ct_l_fields), sl_l_fields⟩)
    (c_l_fields : PySem.W.codeIn K cd_l_fields "_law_fields" = true)
    (k_l_fields : PySem.W.keepIn K (.ref f_l_fields) = true)
    (a_l_no_mean : PySem.W.nsIn K mainGlobals "_law_no_mean" = some (some (.ref f_l_no_mean)))
    (l_l_no_mean : K.lookup f_l_no_mean = some ⟨oc_l_no_mean, od_l_no_mean, .func (PySem.W.fnOf "_law_no_mean" "_law_no_mean" (defArgs s_l_no_mean) (defBody s_l_no_mean) (defScope s_l_no_mean) .none kV_l_no_mean dc_l_no_mean pm_l_no_mean an_l_no_mean cd_l_no_mean ct_l_no_mean), sl_l_no_mean⟩)
    (c_l_no_mean : PySem.W.codeIn K cd_l_no_mean "_law_no_mean" = true)
    (k_l_no_mean : PySem.W.keepIn K (.ref f_l_no_mean) = true)
    (a_l_mean_holds : PySem.W.nsIn K mainGlobals "_law_mean_holds" = some (some (.ref f_l_mean_holds)))
    (l_l_mean_holds : K.lookup f_l_mean_holds = some ⟨oc_l_mean_holds, od_l_mean_holds, .func (PySem.W.fnOf "_law_mean_holds" "_law_mean_holds" (defArgs s_l_mean_holds) (defBody s_l_mean_holds) (defScope s_l_mean_holds) .none kV_l_mean_holds dc_l_mean_holds pm_l_mean_holds an_l_mean_holds cd_l_mean_holds ct_l_mean_holds), sl_l_mean_holds⟩)
    (c_l_mean_holds : PySem.W.codeIn K cd_l_mean_holds "_law_mean_holds" = true)
    (k_l_mean_holds : PySem.W.keepIn K (.ref f_l_mean_holds) = true)
    (a_l_kept : PySem.W.nsIn K mainGlobals "_law_kept" = some (some (.ref f_l_kept)))
    (l_l_kept : K.lookup f_l_kept = some ⟨oc_l_kept, od_l_kept, .func (PySem.W.fnOf "_law_kept" "_law_kept" (defArgs s_l_kept) (defBody s_l_kept) (defScope s_l_kept) .none kV_l_kept dc_l_kept pm_l_kept an_l_kept cd_l_kept ct_l_kept), sl_l_kept⟩)
    (c_l_kept : PySem.W.codeIn K cd_l_kept "_law_kept" = true)
    (k_l_kept : PySem.W.keepIn K (.ref f_l_kept) = true)
    (a_l_greatest_holds : PySem.W.nsIn K mainGlobals "_law_greatest_holds" = some (some (.ref f_l_greatest_holds)))
    (l_l_greatest_holds : K.lookup f_l_greatest_holds = some ⟨oc_l_greatest_holds, od_l_greatest_holds, .func (PySem.W.fnOf "_law_greatest_holds" "_law_greatest_holds" (defArgs s_l_greatest_holds) (defBody s_l_greatest_holds) (defScope s_l_greatest_holds) .none kV_l_greatest_holds dc_l_greatest_holds pm_l_greatest_holds an_l_greatest_holds cd_l_greatest_holds ct_l_greatest_holds), sl_l_greatest_holds⟩)
    (c_l_greatest_holds : PySem.W.codeIn K cd_l_greatest_holds "_law_greatest_holds" = true)
    (k_l_greatest_holds : PySem.W.keepIn K (.ref f_l_greatest_holds) = true)
    (a_l_power_due : PySem.W.nsIn K mainGlobals "_law_power_due" = some (some (.ref f_l_power_due)))
    (l_l_power_due : K.lookup f_l_power_due = some ⟨oc_l_power_due, od_l_power_due, .func (PySem.W.fnOf "_law_power_due" "_law_power_due" (defArgs s_l_power_due) (defBody s_l_power_due) (defScope s_l_power_due) .none kV_l_power_due dc_l_power_due pm_l_power_due an_l_power_due cd_l_power_due ct_l_power_due), sl_l_power_due⟩)
    (c_l_power_due : PySem.W.codeIn K cd_l_power_due "_law_power_due" = true)
    (k_l_power_due : PySem.W.keepIn K (.ref f_l_power_due) = true)
    (a_l_products : PySem.W.nsIn K mainGlobals "_law_products" = some (some (.ref f_l_products)))
    (l_l_products : K.lookup f_l_products = some ⟨oc_l_products, od_l_products, .func (PySem.W.fnOf "_law_products" "_law_products" (defArgs s_l_products) (defBody s_l_products) (defScope s_l_products) .none kV_l_products dc_l_products pm_l_products an_l_products cd_l_products ct_l_products), sl_l_products⟩)
    (c_l_products : PySem.W.codeIn K cd_l_products "_law_products" = true)
    (k_l_products : PySem.W.keepIn K (.ref f_l_products) = true)
    (a_l_compares : PySem.W.nsIn K mainGlobals "_law_compares" = some (some (.ref f_l_compares)))
    (l_l_compares : K.lookup f_l_compares = some ⟨oc_l_compares, od_l_compares, .func (PySem.W.fnOf "_law_compares" "_law_compares" (defArgs s_l_compares) (defBody s_l_compares) (defScope s_l_compares) .none kV_l_compares dc_l_compares pm_l_compares an_l_compares cd_l_compares ct_l_compares), sl_l_compares⟩)
    (c_l_compares : PySem.W.codeIn K cd_l_compares "_law_compares" = true)
    (k_l_compares : PySem.W.keepIn K (.ref f_l_compares) = true)
    (z_isinstance : PySem.W.nsIn K mainGlobals "isinstance" = some none)
    (z_int : PySem.W.nsIn K mainGlobals "int" = some none)
    (z_bool : PySem.W.nsIn K mainGlobals "bool" = some none)
    (z_len : PySem.W.nsIn K mainGlobals "len" = some none)
    (z_abs : PySem.W.nsIn K mainGlobals "abs" = some none)
    (z_max : PySem.W.nsIn K mainGlobals "max" = some none)
    (z_range : PySem.W.nsIn K mainGlobals "range" = some none)
    (z_ValueError : PySem.W.nsIn K mainGlobals "ValueError" = some none)
    (z_tuple : PySem.W.nsIn K mainGlobals "tuple" = some none)
    (a_Share___add__ : PySem.W.findIn K (.ref CShare) "__add__" = some (some (.ref f_Share___add__)))
    (i_Share___add__ : PySem.W.isFn K (.ref f_Share___add__) = true)
    (l_Share___add__ : K.lookup f_Share___add__ = some ⟨oc_Share___add__, od_Share___add__, .func (PySem.W.fnOf "__add__" "Share.__add__" (defArgs s_Share___add__) (defBody s_Share___add__) (defScope s_Share___add__) .none kV_Share___add__ dc_Share___add__ pm_Share___add__ an_Share___add__ cd_Share___add__ ct_Share___add__), sl_Share___add__⟩)
    (c_Share___add__ : PySem.W.codeIn K cd_Share___add__ "Share.__add__" = true)
    (k_Share___add__ : PySem.W.keepIn K (.ref f_Share___add__) = true)
    (a_Share___mul__ : PySem.W.findIn K (.ref CShare) "__mul__" = some (some (.ref f_Share___mul__)))
    (i_Share___mul__ : PySem.W.isFn K (.ref f_Share___mul__) = true)
    (l_Share___mul__ : K.lookup f_Share___mul__ = some ⟨oc_Share___mul__, od_Share___mul__, .func (PySem.W.fnOf "__mul__" "Share.__mul__" (defArgs s_Share___mul__) (defBody s_Share___mul__) (defScope s_Share___mul__) .none kV_Share___mul__ dc_Share___mul__ pm_Share___mul__ an_Share___mul__ cd_Share___mul__ ct_Share___mul__), sl_Share___mul__⟩)
    (c_Share___mul__ : PySem.W.codeIn K cd_Share___mul__ "Share.__mul__" = true)
    (k_Share___mul__ : PySem.W.keepIn K (.ref f_Share___mul__) = true)
    (a_Share_at_most : PySem.W.findIn K (.ref CShare) "at_most" = some (some (.ref f_Share_at_most)))
    (i_Share_at_most : PySem.W.isFn K (.ref f_Share_at_most) = true)
    (l_Share_at_most : K.lookup f_Share_at_most = some ⟨oc_Share_at_most, od_Share_at_most, .func (PySem.W.fnOf "at_most" "Share.at_most" (defArgs s_Share_at_most) (defBody s_Share_at_most) (defScope s_Share_at_most) .none kV_Share_at_most dc_Share_at_most pm_Share_at_most an_Share_at_most cd_Share_at_most ct_Share_at_most), sl_Share_at_most⟩)
    (c_Share_at_most : PySem.W.codeIn K cd_Share_at_most "Share.at_most" = true)
    (k_Share_at_most : PySem.W.keepIn K (.ref f_Share_at_most) = true)
    (kCOddsError : PySem.W.keepIn K (.ref COddsError) = true)
    (bCOddsError : PySem.W.subIn K (.ref COddsError) (.type "BaseException") = some true)
    (tCOddsError : PySem.W.typeIn K (.ref COddsError) = some (.type "type"))
    (gaCOddsError : PySem.W.findIn K (.ref COddsError) "__getattribute__" = some (some (.builtin "BaseException.__getattribute__")))
    (gbCOddsError : PySem.W.findIn K (.ref COddsError) "__getattr__" = some none)
    (hdCOddsError : PySem.W.hasDictIn K COddsError = true)
    (clCOddsError : PySem.W.findIn K (.ref COddsError) "__class__" = some (some (.builtin "object.__class__")))
    (mrCOddsError : PySem.W.mroIn K COddsError (.type "object") = some true)
    (kCBadShare : PySem.W.keepIn K (.ref CBadShare) = true)
    (bCBadShare : PySem.W.subIn K (.ref CBadShare) (.type "BaseException") = some true)
    (tCBadShare : PySem.W.typeIn K (.ref CBadShare) = some (.type "type"))
    (gaCBadShare : PySem.W.findIn K (.ref CBadShare) "__getattribute__" = some (some (.builtin "BaseException.__getattribute__")))
    (gbCBadShare : PySem.W.findIn K (.ref CBadShare) "__getattr__" = some none)
    (hdCBadShare : PySem.W.hasDictIn K CBadShare = true)
    (clCBadShare : PySem.W.findIn K (.ref CBadShare) "__class__" = some (some (.builtin "object.__class__")))
    (mrCBadShare : PySem.W.mroIn K CBadShare (.type "object") = some true)
    (kCBadText : PySem.W.keepIn K (.ref CBadText) = true)
    (bCBadText : PySem.W.subIn K (.ref CBadText) (.type "BaseException") = some true)
    (tCBadText : PySem.W.typeIn K (.ref CBadText) = some (.type "type"))
    (gaCBadText : PySem.W.findIn K (.ref CBadText) "__getattribute__" = some (some (.builtin "BaseException.__getattribute__")))
    (gbCBadText : PySem.W.findIn K (.ref CBadText) "__getattr__" = some none)
    (hdCBadText : PySem.W.hasDictIn K CBadText = true)
    (clCBadText : PySem.W.findIn K (.ref CBadText) "__class__" = some (some (.builtin "object.__class__")))
    (mrCBadText : PySem.W.mroIn K CBadText (.type "object") = some true)
    (kCBadBook : PySem.W.keepIn K (.ref CBadBook) = true)
    (bCBadBook : PySem.W.subIn K (.ref CBadBook) (.type "BaseException") = some true)
    (tCBadBook : PySem.W.typeIn K (.ref CBadBook) = some (.type "type"))
    (gaCBadBook : PySem.W.findIn K (.ref CBadBook) "__getattribute__" = some (some (.builtin "BaseException.__getattribute__")))
    (gbCBadBook : PySem.W.findIn K (.ref CBadBook) "__getattr__" = some none)
    (hdCBadBook : PySem.W.hasDictIn K CBadBook = true)
    (clCBadBook : PySem.W.findIn K (.ref CBadBook) "__class__" = some (some (.builtin "object.__class__")))
    (mrCBadBook : PySem.W.mroIn K CBadBook (.type "object") = some true)
    (kCBadMove : PySem.W.keepIn K (.ref CBadMove) = true)
    (bCBadMove : PySem.W.subIn K (.ref CBadMove) (.type "BaseException") = some true)
    (tCBadMove : PySem.W.typeIn K (.ref CBadMove) = some (.type "type"))
    (gaCBadMove : PySem.W.findIn K (.ref CBadMove) "__getattribute__" = some (some (.builtin "BaseException.__getattribute__")))
    (gbCBadMove : PySem.W.findIn K (.ref CBadMove) "__getattr__" = some none)
    (hdCBadMove : PySem.W.hasDictIn K CBadMove = true)
    (clCBadMove : PySem.W.findIn K (.ref CBadMove) "__class__" = some (some (.builtin "object.__class__")))
    (mrCBadMove : PySem.W.mroIn K CBadMove (.type "object") = some true)
    (kCBadProgram : PySem.W.keepIn K (.ref CBadProgram) = true)
    (bCBadProgram : PySem.W.subIn K (.ref CBadProgram) (.type "BaseException") = some true)
    (tCBadProgram : PySem.W.typeIn K (.ref CBadProgram) = some (.type "type"))
    (gaCBadProgram : PySem.W.findIn K (.ref CBadProgram) "__getattribute__" = some (some (.builtin "BaseException.__getattribute__")))
    (gbCBadProgram : PySem.W.findIn K (.ref CBadProgram) "__getattr__" = some none)
    (hdCBadProgram : PySem.W.hasDictIn K CBadProgram = true)
    (clCBadProgram : PySem.W.findIn K (.ref CBadProgram) "__class__" = some (some (.builtin "object.__class__")))
    (mrCBadProgram : PySem.W.mroIn K CBadProgram (.type "object") = some true)
    (kCBadPlan : PySem.W.keepIn K (.ref CBadPlan) = true)
    (bCBadPlan : PySem.W.subIn K (.ref CBadPlan) (.type "BaseException") = some true)
    (tCBadPlan : PySem.W.typeIn K (.ref CBadPlan) = some (.type "type"))
    (gaCBadPlan : PySem.W.findIn K (.ref CBadPlan) "__getattribute__" = some (some (.builtin "BaseException.__getattribute__")))
    (gbCBadPlan : PySem.W.findIn K (.ref CBadPlan) "__getattr__" = some none)
    (hdCBadPlan : PySem.W.hasDictIn K CBadPlan = true)
    (clCBadPlan : PySem.W.findIn K (.ref CBadPlan) "__class__" = some (some (.builtin "object.__class__")))
    (mrCBadPlan : PySem.W.mroIn K CBadPlan (.type "object") = some true)
    (kCUnfit : PySem.W.keepIn K (.ref CUnfit) = true)
    (bCUnfit : PySem.W.subIn K (.ref CUnfit) (.type "BaseException") = some true)
    (tCUnfit : PySem.W.typeIn K (.ref CUnfit) = some (.type "type"))
    (gaCUnfit : PySem.W.findIn K (.ref CUnfit) "__getattribute__" = some (some (.builtin "BaseException.__getattribute__")))
    (gbCUnfit : PySem.W.findIn K (.ref CUnfit) "__getattr__" = some none)
    (hdCUnfit : PySem.W.hasDictIn K CUnfit = true)
    (clCUnfit : PySem.W.findIn K (.ref CUnfit) "__class__" = some (some (.builtin "object.__class__")))
    (mrCUnfit : PySem.W.mroIn K CUnfit (.type "object") = some true)
    (kCTooLarge : PySem.W.keepIn K (.ref CTooLarge) = true)
    (bCTooLarge : PySem.W.subIn K (.ref CTooLarge) (.type "BaseException") = some true)
    (tCTooLarge : PySem.W.typeIn K (.ref CTooLarge) = some (.type "type"))
    (gaCTooLarge : PySem.W.findIn K (.ref CTooLarge) "__getattribute__" = some (some (.builtin "BaseException.__getattribute__")))
    (gbCTooLarge : PySem.W.findIn K (.ref CTooLarge) "__getattr__" = some none)
    (hdCTooLarge : PySem.W.hasDictIn K CTooLarge = true)
    (clCTooLarge : PySem.W.findIn K (.ref CTooLarge) "__class__" = some (some (.builtin "object.__class__")))
    (mrCTooLarge : PySem.W.mroIn K CTooLarge (.type "object") = some true)
    (kCBadEdit : PySem.W.keepIn K (.ref CBadEdit) = true)
    (bCBadEdit : PySem.W.subIn K (.ref CBadEdit) (.type "BaseException") = some true)
    (tCBadEdit : PySem.W.typeIn K (.ref CBadEdit) = some (.type "type"))
    (gaCBadEdit : PySem.W.findIn K (.ref CBadEdit) "__getattribute__" = some (some (.builtin "BaseException.__getattribute__")))
    (gbCBadEdit : PySem.W.findIn K (.ref CBadEdit) "__getattr__" = some none)
    (hdCBadEdit : PySem.W.hasDictIn K CBadEdit = true)
    (clCBadEdit : PySem.W.findIn K (.ref CBadEdit) "__class__" = some (some (.builtin "object.__class__")))
    (mrCBadEdit : PySem.W.mroIn K CBadEdit (.type "object") = some true)
    (ggcd : PySem.W.nsIn K mainGlobals "gcd" = some (some (.builtin "math.gcd")))
    (Spg : PySem.W.plainGet K CShare Str.empty = true)
    (Shd : PySem.W.hasDictIn K CShare = true)
    (Spo : PySem.W.plainOver K CShare = true)
    (Ssa : PySem.W.findIn K (.ref CShare) "__setattr__" = some (some (.builtin "object.__setattr__")))
    (Snt : PySem.W.findIn K (.ref CShare) "top" = some none)
    (Snb : PySem.W.findIn K (.ref CShare) "bottom" = some none)
    (Sca : PySem.W.findIn K (.ref CShare) "__class__" = some (some (.builtin "object.__class__")))
    (Shm : PySem.W.mroIn K CShare (.type "object") = some true)
    (Ssf : PySem.W.selfFirst K CShare = true)
    (Sty : PySem.W.typeIn K (.ref CShare) = some (.type "type"))
    (Smk : PySem.W.makesIn K CShare = true)
    (Skp : PySem.W.keepIn K (.ref CShare) = true)
    (Ssint : PySem.W.subIn K (.type "int") (.ref CShare) = some false)
    (Ssbool : PySem.W.subIn K (.type "bool") (.ref CShare) = some false)
    (SsNoneType : PySem.W.subIn K (.type "NoneType") (.ref CShare) = some false)
    (Ssstr : PySem.W.subIn K (.type "str") (.ref CShare) = some false)
    (Sstuple : PySem.W.subIn K (.type "tuple") (.ref CShare) = some false)
    (Sslist : PySem.W.subIn K (.type "list") (.ref CShare) = some false)
    (a_init : PySem.W.findIn K (.ref CShare) "__init__" = some (some (.ref f_init)))
    (i_init : PySem.W.isFn K (.ref f_init) = true)
    (l_init : K.lookup f_init = some ⟨oc_init, od_init, .func (PySem.W.fnOf "__init__" "Share.__init__" (defArgs s_Share___init__) (defBody s_Share___init__) (defScope s_Share___init__) (.ref Tp) kV_init dc_init pm_init an_init cd_init ct_init), sl_init⟩)
    (c_init : PySem.W.codeIn K cd_init "Share.__init__" = true)
    (k_init : PySem.W.keepIn K (.ref f_init) = true)
    (lT : K.lookup Tp = some ⟨.type "tuple", dT, .seq #[.int 1 tkT] nT, slT⟩)
    (xBS : PySem.W.excIn K CBadShare [.type "ValueError", .type "Exception", .type "BaseException", .type "object"] "ValueError.__new__" = true)
    (up : PySem.W.subIn K (.ref CBadShare) (.ref COddsError) = some true)
    (upV : PySem.W.subIn K (.ref CBadShare) (.type "ValueError") = some true)
    (noBadText : PySem.W.subIn K (.ref CBadShare) (.ref CBadText) = some false)
    (neBadText : CBadShare ≠ CBadText)
    (noBadBook : PySem.W.subIn K (.ref CBadShare) (.ref CBadBook) = some false)
    (neBadBook : CBadShare ≠ CBadBook)
    (noBadMove : PySem.W.subIn K (.ref CBadShare) (.ref CBadMove) = some false)
    (neBadMove : CBadShare ≠ CBadMove)
    (noBadProgram : PySem.W.subIn K (.ref CBadShare) (.ref CBadProgram) = some false)
    (neBadProgram : CBadShare ≠ CBadProgram)
    (noBadPlan : PySem.W.subIn K (.ref CBadShare) (.ref CBadPlan) = some false)
    (neBadPlan : CBadShare ≠ CBadPlan)
    (noUnfit : PySem.W.subIn K (.ref CBadShare) (.ref CUnfit) = some false)
    (neUnfit : CBadShare ≠ CUnfit)
    (noTooLarge : PySem.W.subIn K (.ref CBadShare) (.ref CTooLarge) = some false)
    (neTooLarge : CBadShare ≠ CTooLarge)
    (noBadEdit : PySem.W.subIn K (.ref CBadShare) (.ref CBadEdit) = some false)
    (neBadEdit : CBadShare ≠ CBadEdit) :
    ∃ fd : FuncData, (∀ (s : Shared) (v : Value), BindsTo s fd ⟨[v], []⟩ [("script", v)]) ∧ ∀ base : Heap, K.In base → base.Ns mainGlobals mg → FnOk P w K mg base CX0 8 fa fd ["script"] (spLaw K) := by
  have e := hfa.symm.trans (PySem.W.mg_of X G a_law)
  cases e
  have T : Txt K mg CShare COddsError CBadShare CBadText CBadBook CBadMove CBadProgram CBadPlan CUnfit CTooLarge CBadEdit := {
  d_l_int := df_of X G a_l_int l_l_int c_l_int k_l_int
  d_l_pool := df_of X G a_l_pool l_l_pool c_l_pool k_l_pool
  d_l_stirred := df_of X G a_l_stirred l_l_stirred c_l_stirred k_l_stirred
  d_l_draw := df_of X G a_l_draw l_l_draw c_l_draw k_l_draw
  d_l_size := df_of X G a_l_size l_l_size c_l_size k_l_size
  d_l_fraction := df_of X G a_l_fraction l_l_fraction c_l_fraction k_l_fraction
  d_l_second := df_of X G a_l_second l_l_second c_l_second k_l_second
  d_l_answers := df_of X G a_l_answers l_l_answers c_l_answers k_l_answers
  d_law := df_of X G a_law l_law c_law k_law
  d_mean := df_of X G a_mean l_mean c_mean k_mean
  d_greatest := df_of X G a_greatest l_greatest c_greatest k_greatest
  d_power := df_of X G a_power l_power c_power k_power
  d_l_row := df_of X G a_l_row l_l_row c_l_row k_l_row
  d_l_low := df_of X G a_l_low l_l_low c_l_low k_l_low
  d_l_fields := df_of X G a_l_fields l_l_fields c_l_fields k_l_fields
  d_l_no_mean := df_of X G a_l_no_mean l_l_no_mean c_l_no_mean k_l_no_mean
  d_l_mean_holds := df_of X G a_l_mean_holds l_l_mean_holds c_l_mean_holds k_l_mean_holds
  d_l_kept := df_of X G a_l_kept l_l_kept c_l_kept k_l_kept
  d_l_greatest_holds := df_of X G a_l_greatest_holds l_l_greatest_holds c_l_greatest_holds k_l_greatest_holds
  d_l_power_due := df_of X G a_l_power_due l_l_power_due c_l_power_due k_l_power_due
  d_l_products := df_of X G a_l_products l_l_products c_l_products k_l_products
  d_l_compares := df_of X G a_l_compares l_l_compares c_l_compares k_l_compares
  n_isinstance := PySem.W.mg_none_of X G z_isinstance
  n_int := PySem.W.mg_none_of X G z_int
  n_bool := PySem.W.mg_none_of X G z_bool
  n_len := PySem.W.mg_none_of X G z_len
  n_abs := PySem.W.mg_none_of X G z_abs
  n_max := PySem.W.mg_none_of X G z_max
  n_range := PySem.W.mg_none_of X G z_range
  n_ValueError := PySem.W.mg_none_of X G z_ValueError
  n_tuple := PySem.W.mg_none_of X G z_tuple
  d_Share___add__ := dm_of a_Share___add__ i_Share___add__ l_Share___add__ c_Share___add__ k_Share___add__
  d_Share___mul__ := dm_of a_Share___mul__ i_Share___mul__ l_Share___mul__ c_Share___mul__ k_Share___mul__
  d_Share_at_most := dm_of a_Share_at_most i_Share_at_most l_Share_at_most c_Share_at_most k_Share_at_most
  e_OddsError := ⟨PySem.W.mg_of X G gCOddsError, kCOddsError, bCOddsError, tCOddsError, ⟨gaCOddsError, gbCOddsError, bCOddsError, hdCOddsError, clCOddsError, hn0, ht0, mrCOddsError⟩⟩
  e_BadShare := ⟨PySem.W.mg_of X G gCBadShare, kCBadShare, bCBadShare, tCBadShare, ⟨gaCBadShare, gbCBadShare, bCBadShare, hdCBadShare, clCBadShare, hn0, ht0, mrCBadShare⟩⟩
  e_BadText := ⟨PySem.W.mg_of X G gCBadText, kCBadText, bCBadText, tCBadText, ⟨gaCBadText, gbCBadText, bCBadText, hdCBadText, clCBadText, hn0, ht0, mrCBadText⟩⟩
  e_BadBook := ⟨PySem.W.mg_of X G gCBadBook, kCBadBook, bCBadBook, tCBadBook, ⟨gaCBadBook, gbCBadBook, bCBadBook, hdCBadBook, clCBadBook, hn0, ht0, mrCBadBook⟩⟩
  e_BadMove := ⟨PySem.W.mg_of X G gCBadMove, kCBadMove, bCBadMove, tCBadMove, ⟨gaCBadMove, gbCBadMove, bCBadMove, hdCBadMove, clCBadMove, hn0, ht0, mrCBadMove⟩⟩
  e_BadProgram := ⟨PySem.W.mg_of X G gCBadProgram, kCBadProgram, bCBadProgram, tCBadProgram, ⟨gaCBadProgram, gbCBadProgram, bCBadProgram, hdCBadProgram, clCBadProgram, hn0, ht0, mrCBadProgram⟩⟩
  e_BadPlan := ⟨PySem.W.mg_of X G gCBadPlan, kCBadPlan, bCBadPlan, tCBadPlan, ⟨gaCBadPlan, gbCBadPlan, bCBadPlan, hdCBadPlan, clCBadPlan, hn0, ht0, mrCBadPlan⟩⟩
  e_Unfit := ⟨PySem.W.mg_of X G gCUnfit, kCUnfit, bCUnfit, tCUnfit, ⟨gaCUnfit, gbCUnfit, bCUnfit, hdCUnfit, clCUnfit, hn0, ht0, mrCUnfit⟩⟩
  e_TooLarge := ⟨PySem.W.mg_of X G gCTooLarge, kCTooLarge, bCTooLarge, tCTooLarge, ⟨gaCTooLarge, gbCTooLarge, bCTooLarge, hdCTooLarge, clCTooLarge, hn0, ht0, mrCTooLarge⟩⟩
  e_BadEdit := ⟨PySem.W.mg_of X G gCBadEdit, kCBadEdit, bCBadEdit, tCBadEdit, ⟨gaCBadEdit, gbCBadEdit, bCBadEdit, hdCBadEdit, clCBadEdit, hn0, ht0, mrCBadEdit⟩⟩
  g_gcd := PySem.W.mg_of X G ggcd
  sh := ⟨PySem.W.mg_of X G gCShare, ⟨Spg, Shd, Spo, Ssa⟩, Snt, Snb, ⟨⟨Spg, Shd, Spo, Ssa⟩, Sca, hn0, ht0, Shm, kit_self⟩, Ssf, Sty, Ssint, Ssbool, SsNoneType, Ssstr, Sstuple, Sslist⟩
  d_init := ⟨f_init, _, ⟨Smk, a_init, i_init, Skp⟩, ⟨⟨_, _, _, _, _, _, _, _, _, _, rfl, l_init, c_init, .inr ⟨by simp, Tp, _, [.int 1 tkT], nT, rfl, lT, rfl, .cons ⟨tkT, rfl⟩ .nil⟩, .inl rfl⟩, k_init⟩⟩
  x_BadShare := xBS
  up := up
  upV := upV
  no_BadText := ⟨noBadText, neBadText⟩
  no_BadBook := ⟨noBadBook, neBadBook⟩
  no_BadMove := ⟨noBadMove, neBadMove⟩
  no_BadProgram := ⟨noBadProgram, neBadProgram⟩
  no_BadPlan := ⟨noBadPlan, neBadPlan⟩
  no_Unfit := ⟨noUnfit, neUnfit⟩
  no_TooLarge := ⟨noTooLarge, neTooLarge⟩
  no_BadEdit := ⟨noBadEdit, neBadEdit⟩ }
  exact ⟨_, fun s v => .of_eq rfl, fun base _ _ => ok_law T (fun_mk (st := s_law) l_law c_law k_law)⟩
theorem walk {l : PySem.W.OpenLaw} {q : Program} {loose : List Str} {XP : (Str → Option Value) → Heap → Prop} {YP : World → Heap → Prop} {d : DefRec} {K : Params → PySem.W.Frag} (hn : l.most = some 63) (hdf : d.params.defaults = [])
    (hY : ∀ (w : World) (h : Heap), YP w h → (K w.params).In h)
    (F : ∀ (w : World) (mg : Str → Option Value) (fa : Addr) (h : Heap), (K w.params).In h → h.Ns mainGlobals mg → mg d.name = some (.ref fa) →
      ∃ fd : FuncData, (∀ (s : Shared) (u : Value), BindsTo s fd ⟨[u], []⟩ [("script", u)]) ∧ ∀ base : Heap, (K w.params).In base → base.Ns mainGlobals mg → FnOk l.prog w (K w.params) mg base CX0 8 fa fd ["script"] (spLaw (K w.params))) :
    PySem.W.WalkO q loose XP YP l.row.toRowW d [] (fun f vs => PySem.call f vs) :=
  L2.walk_of (n := 63) (k := 8) (x := "script") (CX := fun _ => CX0) (sp := fun w => spLaw (K w.params)) hn (by decide) hdf ⟨rfl, by decide, by decide⟩ hY F (fun w H a ns hl hO hS => ⟨a, ns, rfl, Scr.of hO hS, fun _ => rfl⟩) fun _ _ _ _ _ z => z
end My

open PySem PySem.W PyProof.Rows in
set_option maxRecDepth 100000 in
set_option maxHeartbeats 0 in
theorem PySem.Challenge.cw_oddskept_k01_shares_product_holds : PySem.Challenge.rw_oddskept_k01_shares_product.Holds := by
  w_on; o_law; k_head; (case hw => w_witness2)
  k_fill
  refine My.walk (l := PySem.Challenge.rw_oddskept_k01_shares_product) rfl rfl (fun w h Y => PySem.W.kIn_of Y) ?F
  case F =>
    intro w mg fa h KX G hmg
    refine' My.mk_all KX G hmg ?gCShare ?gCOddsError ?gCBadShare ?gCBadText ?gCBadBook ?gCBadMove ?gCBadProgram ?gCBadPlan ?gCUnfit ?gCTooLarge ?gCBadEdit ?hn0 ?ht0 ?a_l_int ?l_l_int ?c_l_int ?k_l_int ?a_l_pool ?l_l_pool ?c_l_pool ?k_l_pool ?a_l_stirred ?l_l_stirred ?c_l_stirred ?k_l_stirred ?a_l_draw ?l_l_draw ?c_l_draw ?k_l_draw ?a_l_size ?l_l_size ?c_l_size ?k_l_size ?a_l_fraction ?l_l_fraction ?c_l_fraction ?k_l_fraction ?a_l_second ?l_l_second ?c_l_second ?k_l_second ?a_l_answers ?l_l_answers ?c_l_answers ?k_l_answers ?a_law ?l_law ?c_law ?k_law ?a_mean ?l_mean ?c_mean ?k_mean ?a_greatest ?l_greatest ?c_greatest ?k_greatest ?a_power ?l_power ?c_power ?k_power ?a_l_row ?l_l_row ?c_l_row ?k_l_row ?a_l_low ?l_l_low ?c_l_low ?k_l_low ?a_l_fields ?l_l_fields ?c_l_fields ?k_l_fields ?a_l_no_mean ?l_l_no_mean ?c_l_no_mean ?k_l_no_mean ?a_l_mean_holds ?l_l_mean_holds ?c_l_mean_holds ?k_l_mean_holds ?a_l_kept ?l_l_kept ?c_l_kept ?k_l_kept ?a_l_greatest_holds ?l_l_greatest_holds ?c_l_greatest_holds ?k_l_greatest_holds ?a_l_power_due ?l_l_power_due ?c_l_power_due ?k_l_power_due ?a_l_products ?l_l_products ?c_l_products ?k_l_products ?a_l_compares ?l_l_compares ?c_l_compares ?k_l_compares ?z_isinstance ?z_int ?z_bool ?z_len ?z_abs ?z_max ?z_range ?z_ValueError ?z_tuple ?a_Share___add__ ?i_Share___add__ ?l_Share___add__ ?c_Share___add__ ?k_Share___add__ ?a_Share___mul__ ?i_Share___mul__ ?l_Share___mul__ ?c_Share___mul__ ?k_Share___mul__ ?a_Share_at_most ?i_Share_at_most ?l_Share_at_most ?c_Share_at_most ?k_Share_at_most ?kCOddsError ?bCOddsError ?tCOddsError ?gaCOddsError ?gbCOddsError ?hdCOddsError ?clCOddsError ?mrCOddsError ?kCBadShare ?bCBadShare ?tCBadShare ?gaCBadShare ?gbCBadShare ?hdCBadShare ?clCBadShare ?mrCBadShare ?kCBadText ?bCBadText ?tCBadText ?gaCBadText ?gbCBadText ?hdCBadText ?clCBadText ?mrCBadText ?kCBadBook ?bCBadBook ?tCBadBook ?gaCBadBook ?gbCBadBook ?hdCBadBook ?clCBadBook ?mrCBadBook ?kCBadMove ?bCBadMove ?tCBadMove ?gaCBadMove ?gbCBadMove ?hdCBadMove ?clCBadMove ?mrCBadMove ?kCBadProgram ?bCBadProgram ?tCBadProgram ?gaCBadProgram ?gbCBadProgram ?hdCBadProgram ?clCBadProgram ?mrCBadProgram ?kCBadPlan ?bCBadPlan ?tCBadPlan ?gaCBadPlan ?gbCBadPlan ?hdCBadPlan ?clCBadPlan ?mrCBadPlan ?kCUnfit ?bCUnfit ?tCUnfit ?gaCUnfit ?gbCUnfit ?hdCUnfit ?clCUnfit ?mrCUnfit ?kCTooLarge ?bCTooLarge ?tCTooLarge ?gaCTooLarge ?gbCTooLarge ?hdCTooLarge ?clCTooLarge ?mrCTooLarge ?kCBadEdit ?bCBadEdit ?tCBadEdit ?gaCBadEdit ?gbCBadEdit ?hdCBadEdit ?clCBadEdit ?mrCBadEdit ?ggcd ?Spg ?Shd ?Spo ?Ssa ?Snt ?Snb ?Sca ?Shm ?Ssf ?Sty ?Smk ?Skp ?Ssint ?Ssbool ?SsNoneType ?Ssstr ?Sstuple ?Sslist ?a_init ?i_init ?l_init ?c_init ?k_init ?lT ?xBS ?up ?upV ?noBadText ?neBadText ?noBadBook ?neBadBook ?noBadMove ?neBadMove ?noBadProgram ?neBadProgram ?noBadPlan ?neBadPlan ?noUnfit ?neUnfit ?noTooLarge ?neTooLarge ?noBadEdit ?neBadEdit
    (case gCShare => k_is)
    (case gCOddsError => k_is)
    (case gCBadShare => k_is)
    (case gCBadText => k_is)
    (case gCBadBook => k_is)
    (case gCBadMove => k_is)
    (case gCBadProgram => k_is)
    (case gCBadPlan => k_is)
    (case gCUnfit => k_is)
    (case gCTooLarge => k_is)
    (case gCBadEdit => k_is)
    (case hn0 => k_is)
    (case ht0 => k_is)
    (case a_l_int => k_is)
    (case l_l_int => k_is)
    (case c_l_int => k_is)
    (case k_l_int => k_is)
    (case a_l_pool => k_is)
    (case l_l_pool => k_is)
    (case c_l_pool => k_is)
    (case k_l_pool => k_is)
    (case a_l_stirred => k_is)
    (case l_l_stirred => k_is)
    (case c_l_stirred => k_is)
    (case k_l_stirred => k_is)
    (case a_l_draw => k_is)
    (case l_l_draw => k_is)
    (case c_l_draw => k_is)
    (case k_l_draw => k_is)
    (case a_l_size => k_is)
    (case l_l_size => k_is)
    (case c_l_size => k_is)
    (case k_l_size => k_is)
    (case a_l_fraction => k_is)
    (case l_l_fraction => k_is)
    (case c_l_fraction => k_is)
    (case k_l_fraction => k_is)
    (case a_l_second => k_is)
    (case l_l_second => k_is)
    (case c_l_second => k_is)
    (case k_l_second => k_is)
    (case a_l_answers => k_is)
    (case l_l_answers => k_is)
    (case c_l_answers => k_is)
    (case k_l_answers => k_is)
    (case a_law => k_is)
    (case l_law => k_is)
    (case c_law => k_is)
    (case k_law => k_is)
    (case a_mean => k_is)
    (case l_mean => k_is)
    (case c_mean => k_is)
    (case k_mean => k_is)
    (case a_greatest => k_is)
    (case l_greatest => k_is)
    (case c_greatest => k_is)
    (case k_greatest => k_is)
    (case a_power => k_is)
    (case l_power => k_is)
    (case c_power => k_is)
    (case k_power => k_is)
    (case a_l_row => k_is)
    (case l_l_row => k_is)
    (case c_l_row => k_is)
    (case k_l_row => k_is)
    (case a_l_low => k_is)
    (case l_l_low => k_is)
    (case c_l_low => k_is)
    (case k_l_low => k_is)
    (case a_l_fields => k_is)
    (case l_l_fields => k_is)
    (case c_l_fields => k_is)
    (case k_l_fields => k_is)
    (case a_l_no_mean => k_is)
    (case l_l_no_mean => k_is)
    (case c_l_no_mean => k_is)
    (case k_l_no_mean => k_is)
    (case a_l_mean_holds => k_is)
    (case l_l_mean_holds => k_is)
    (case c_l_mean_holds => k_is)
    (case k_l_mean_holds => k_is)
    (case a_l_kept => k_is)
    (case l_l_kept => k_is)
    (case c_l_kept => k_is)
    (case k_l_kept => k_is)
    (case a_l_greatest_holds => k_is)
    (case l_l_greatest_holds => k_is)
    (case c_l_greatest_holds => k_is)
    (case k_l_greatest_holds => k_is)
    (case a_l_power_due => k_is)
    (case l_l_power_due => k_is)
    (case c_l_power_due => k_is)
    (case k_l_power_due => k_is)
    (case a_l_products => k_is)
    (case l_l_products => k_is)
    (case c_l_products => k_is)
    (case k_l_products => k_is)
    (case a_l_compares => k_is)
    (case l_l_compares => k_is)
    (case c_l_compares => k_is)
    (case k_l_compares => k_is)
    (case z_isinstance => k_is)
    (case z_int => k_is)
    (case z_bool => k_is)
    (case z_len => k_is)
    (case z_abs => k_is)
    (case z_max => k_is)
    (case z_range => k_is)
    (case z_ValueError => k_is)
    (case z_tuple => k_is)
    (case a_Share___add__ => k_is)
    (case i_Share___add__ => k_is)
    (case l_Share___add__ => k_is)
    (case c_Share___add__ => k_is)
    (case k_Share___add__ => k_is)
    (case a_Share___mul__ => k_is)
    (case i_Share___mul__ => k_is)
    (case l_Share___mul__ => k_is)
    (case c_Share___mul__ => k_is)
    (case k_Share___mul__ => k_is)
    (case a_Share_at_most => k_is)
    (case i_Share_at_most => k_is)
    (case l_Share_at_most => k_is)
    (case c_Share_at_most => k_is)
    (case k_Share_at_most => k_is)
    (case kCOddsError => k_is)
    (case bCOddsError => k_is)
    (case tCOddsError => k_is)
    (case gaCOddsError => k_is)
    (case gbCOddsError => k_is)
    (case hdCOddsError => k_is)
    (case clCOddsError => k_is)
    (case mrCOddsError => k_is)
    (case kCBadShare => k_is)
    (case bCBadShare => k_is)
    (case tCBadShare => k_is)
    (case gaCBadShare => k_is)
    (case gbCBadShare => k_is)
    (case hdCBadShare => k_is)
    (case clCBadShare => k_is)
    (case mrCBadShare => k_is)
    (case kCBadText => k_is)
    (case bCBadText => k_is)
    (case tCBadText => k_is)
    (case gaCBadText => k_is)
    (case gbCBadText => k_is)
    (case hdCBadText => k_is)
    (case clCBadText => k_is)
    (case mrCBadText => k_is)
    (case kCBadBook => k_is)
    (case bCBadBook => k_is)
    (case tCBadBook => k_is)
    (case gaCBadBook => k_is)
    (case gbCBadBook => k_is)
    (case hdCBadBook => k_is)
    (case clCBadBook => k_is)
    (case mrCBadBook => k_is)
    (case kCBadMove => k_is)
    (case bCBadMove => k_is)
    (case tCBadMove => k_is)
    (case gaCBadMove => k_is)
    (case gbCBadMove => k_is)
    (case hdCBadMove => k_is)
    (case clCBadMove => k_is)
    (case mrCBadMove => k_is)
    (case kCBadProgram => k_is)
    (case bCBadProgram => k_is)
    (case tCBadProgram => k_is)
    (case gaCBadProgram => k_is)
    (case gbCBadProgram => k_is)
    (case hdCBadProgram => k_is)
    (case clCBadProgram => k_is)
    (case mrCBadProgram => k_is)
    (case kCBadPlan => k_is)
    (case bCBadPlan => k_is)
    (case tCBadPlan => k_is)
    (case gaCBadPlan => k_is)
    (case gbCBadPlan => k_is)
    (case hdCBadPlan => k_is)
    (case clCBadPlan => k_is)
    (case mrCBadPlan => k_is)
    (case kCUnfit => k_is)
    (case bCUnfit => k_is)
    (case tCUnfit => k_is)
    (case gaCUnfit => k_is)
    (case gbCUnfit => k_is)
    (case hdCUnfit => k_is)
    (case clCUnfit => k_is)
    (case mrCUnfit => k_is)
    (case kCTooLarge => k_is)
    (case bCTooLarge => k_is)
    (case tCTooLarge => k_is)
    (case gaCTooLarge => k_is)
    (case gbCTooLarge => k_is)
    (case hdCTooLarge => k_is)
    (case clCTooLarge => k_is)
    (case mrCTooLarge => k_is)
    (case kCBadEdit => k_is)
    (case bCBadEdit => k_is)
    (case tCBadEdit => k_is)
    (case gaCBadEdit => k_is)
    (case gbCBadEdit => k_is)
    (case hdCBadEdit => k_is)
    (case clCBadEdit => k_is)
    (case mrCBadEdit => k_is)
    (case ggcd => k_is)
    (case Spg => k_is)
    (case Shd => k_is)
    (case Spo => k_is)
    (case Ssa => k_is)
    (case Snt => k_is)
    (case Snb => k_is)
    (case Sca => k_is)
    (case Shm => k_is)
    (case Ssf => k_is)
    (case Sty => k_is)
    (case Smk => k_is)
    (case Skp => k_is)
    (case Ssint => k_is)
    (case Ssbool => k_is)
    (case SsNoneType => k_is)
    (case Ssstr => k_is)
    (case Sstuple => k_is)
    (case Sslist => k_is)
    (case a_init => k_is)
    (case i_init => k_is)
    (case l_init => k_is)
    (case c_init => k_is)
    (case k_init => k_is)
    (case lT => k_is)
    (case xBS => k_exc)
    (case up => k_is)
    (case upV => k_is)
    (case noBadText => k_is)
    (case neBadText => decide)
    (case noBadBook => k_is)
    (case neBadBook => decide)
    (case noBadMove => k_is)
    (case neBadMove => decide)
    (case noBadProgram => k_is)
    (case neBadProgram => decide)
    (case noBadPlan => k_is)
    (case neBadPlan => decide)
    (case noUnfit => k_is)
    (case neUnfit => decide)
    (case noTooLarge => k_is)
    (case neTooLarge => decide)
    (case noBadEdit => k_is)
    (case neBadEdit => decide)

