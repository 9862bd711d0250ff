import PyProof.Rows.All
import Wide.All
import OpenK.AllK
import Wide.FinOn
import HandS.ForMost
import HandS.ForExc
import HandS.IsInst
import HandS.Wide
import HandS.WideBits
import HandS.Gcd
import HandS.Defaults
import HandS.MakeKw
import HandS.Codes
import HandS.ExcIs
import HandS.EndBits
import HandS.Conv
import KE.KCallOwn
import HandS.Text
import HandS.StrMore
import HandS.FStr
import HandS.ClsMeth
import KE.IntTextLaws
import PyProof.Rows.StrAscii
import PyProof.Rows.StrFirst
import PyProof.Rows.StrJoinLen
import PyProof.Rows.StrMadeLen
import PySem.Challenge.RW_oddskept_k02_share_texts
set_option Elab.async false
set_option linter.all false
set_option autoImplicit false
set_option maxRecDepth 100000
set_option maxHeartbeats 4000000
namespace U
open PySem PySem.Spec PyProof.Rows L2

/-! ## heaps -/
/-- all but what is named in M stands as it stood -/
def Kp (M : List Addr) (H H' : Hp) : Prop := ∀ b o, b ∉ M → H b = some o → H' b = some o
section
variable {M N : List Addr} {H H' H0 H1 : Hp} {p a b : Addr} {o u : HO}
theorem Kp.refl : Kp M H H := fun _ _ _ e => e
theorem Kp.trans (k : Kp M H H1) (k' : Kp M H1 H') : Kp M H H' := fun b o n e => k' b o n (k b o n e)
theorem Kp.get0 (k : Kp [] H H') (e : H a = some o) : H' a = some o := k a o (by simp) e
theorem Kp.get1 (k : Kp [p] H H') (n : a ≠ p) (e : H a = some o) : H' a = some o := k a o (by simpa using n) e
theorem Kp.of0 (k : Kp [] H H') : Kp M H H' := fun b o _ e => k b o (by simp) e
theorem Kp.new (n : H p = none) : Kp M H (upd H p o) := fun b u _ e => by rw [upd_ne (ne_of_none e n)]; exact e
theorem Kp.mut : Kp [p] H (upd H p o) := fun b u n e => by rw [upd_ne (by simpa using n)]; exact e
/-- what changes was not there at the beginning -/
theorem Kp.low (k : Kp M H0 H) (k1 : Kp [p] H H1) (n : H0 p = none) : Kp M H0 H1 := fun b o nb e => by
  refine k1 b o ?_ (k b o nb e)
  intro z
  have z' : b = p := by simpa using z
  rw [z', n] at e; cases e
theorem Kp.one (k : Kp [p] H0 H) (k1 : Kp [] H H1) : Kp [p] H0 H1 := k.trans k1.of0
theorem Kp.free (k : Kp [] H H') (n : H' p = none) : H p = none := by
  cases e : H p with
  | none => rfl
  | some o => rw [k.get0 e] at n; cases n
theorem Kp.ne_new (k : Kp M H H') (n : H' p = none) (e : H a = some o) (nm : a ∉ M) : a ≠ p := ne_of_none (k a o nm e) n
end

/-! ## steps -/
section
variable {σ : L2.St} {H : Hp} {Q : VK} {D : Ends} {ta tb te : TE} {t : TA} {K : PySem.W.Frag} {E : XK}
theorem u_var {i : Nat} {v : V} (h : σ[i]? = some (some v)) (q : Q v H) : tVar i σ H Q := ⟨v, h, q⟩
theorem u_c {v : V} (q : Q v H) : tC v σ H Q := q
theorem u_op {r : R2} (h : ta σ H fun x H1 => tb σ H1 fun y H2 => r x y H2 Q) : tOp r ta tb σ H Q := h
theorem u_un {r : V → Hp → VK → Prop} (h : ta σ H fun x H1 => r x H1 Q) : tUn r ta σ H Q := h
theorem u_I0 {g : Int → Int → V} {i j : Int} (q : Q (g i j) H) : rI0 g (.int i) (.int j) H Q := ⟨i, j, rfl, rfl, q⟩
theorem u_I {C : Int → Int → Prop} {g : Int → Int → V} {i j : Int} (c : C i j) (q : Q (g i j) H) : rI C g (.int i) (.int j) H Q := ⟨i, j, rfl, rfl, c, q⟩
theorem u_U {g : Int → V} {i : Int} (q : Q (g i) H) : rU g (.int i) H Q := ⟨i, rfl, q⟩
theorem u_cb {r : List V → Hp → VK → Prop} (h : t σ H fun vs H1 => r vs H1 Q) : tCB r t σ H Q := h
theorem u_nil {Q : List V → Hp → Prop} (q : Q [] H) : tNil σ H Q := q
theorem u_cons {Q : List V → Hp → Prop} {tr : TA} (h : ta σ H fun x H1 => tr σ H1 fun xs H2 => Q (x :: xs) H2) : tCons ta tr σ H Q := h
theorem u_call {sp : Sp} (h : t σ H fun vs H1 => sp (vs ++ []) H1 Q E) : tCall sp [] E t σ H Q := h
theorem u_eq {x y : V} (h : scal x y = true) (q : Q (.bl (decide (x = y))) H) : rEq x y H Q := ⟨h, q⟩
theorem u_ne {x y : V} (h : scal x y = true) (q : Q (.bl (!decide (x = y))) H) : rNe x y H Q := ⟨h, q⟩
theorem dI {i j : Int} : decide (V.int i = V.int j) = decide (i = j) := by
  by_cases h : i = j <;> simp [h]
theorem dB {i j : Bool} : decide (V.bl i = V.bl j) = decide (i = j) := by
  by_cases h : i = j <;> simp [h]
theorem dS {i j : Str} : decide (V.str i = V.str j) = decide (i = j) := by
  by_cases h : i = j <;> simp [h]
theorem u_eqI {i j : Int} (q : Q (.bl (decide (i = j))) H) : rEq (.int i) (.int j) H Q := ⟨rfl, by rw [dI]; exact q⟩
theorem u_neI {i j : Int} (q : Q (.bl (!decide (i = j))) H) : rNe (.int i) (.int j) H Q := ⟨rfl, by rw [dI]; exact q⟩
theorem u_eqB {i j : Bool} (q : Q (.bl (decide (i = j))) H) : rEq (.bl i) (.bl j) H Q := ⟨rfl, by rw [dB]; exact q⟩
theorem u_eqS {i j : Str} (q : Q (.bl (decide (i = j))) H) : rEq (.str i) (.str j) H Q := ⟨rfl, by rw [dS]; exact q⟩
theorem u_neS {i j : Str} (q : Q (.bl (!decide (i = j))) H) : rNe (.str i) (.str j) H Q := ⟨rfl, by rw [dS]; exact q⟩

/-! tests -/
def Br (b : Bool) (A B : Hp → Prop) (H : Hp) : Prop := if b = true then A H else B H
def TB (x : V) (Q : Bool → Hp → Prop) (H : Hp) : Prop := ∃ k, x = .bl k ∧ Q k H
theorem u_tb {k : Bool} {Q : Bool → Hp → Prop} (q : Q k H) : TB (.bl k) Q H := ⟨k, rfl, q⟩
theorem u_test {Q : Bool → Hp → Prop} (h : te σ H fun x H' => TB x Q H') : tTest te σ H Q := h
theorem u_tB {Q : Bool → Hp → Prop} (h : te σ H fun x H' => TB x Q H') : tB te σ H Q := h
theorem u_and {a b : TT} {Q : Bool → Hp → Prop} (h : a σ H fun c H1 => Br c (fun H2 => b σ H2 Q) (fun H2 => Q false H2) H1) : tAnd a b σ H Q := h
theorem u_or {a b : TT} {Q : Bool → Hp → Prop} (h : a σ H fun c H1 => Br c (fun H2 => Q true H2) (fun H2 => b σ H2 Q) H1) : tOr a b σ H Q := h
theorem u_not {a : TT} {Q : Bool → Hp → Prop} (h : a σ H fun c H1 => Q (!c) H1) : tNot a σ H Q := h
theorem u_andV (h : ta σ H fun x H1 => TB x (fun c H2 => Br c (fun H3 => tb σ H3 Q) (fun H3 => Q (.bl false) H3) H2) H1) : tAndV ta tb σ H Q := h
theorem u_orV (h : ta σ H fun x H1 => TB x (fun c H2 => Br c (fun H3 => Q (.bl true) H3) (fun H3 => tb σ H3 Q) H2) H1) : tOrV ta tb σ H Q := h
theorem u_notV (h : ta σ H fun x H1 => TB x (fun c H2 => Q (.bl (!c)) H2) H1) : tNotV ta σ H Q := h
theorem u_ifx {c : TT} (h : c σ H fun b H1 => Br b (fun H2 => ta σ H2 Q) (fun H2 => tb σ H2 Q) H1) : tIf c ta tb σ H Q := h
theorem br_t {A B : Hp → Prop} (h : A H) : Br true A B H := h
theorem br_f {A B : Hp → Prop} (h : B H) : Br false A B H := h
theorem br_nt {A B : Hp → Prop} (h : B H) : Br (!true) A B H := h
theorem br_nf {A B : Hp → Prop} (h : A H) : Br (!false) A B H := h
theorem br_d {c : Prop} [Decidable c] {A B : Hp → Prop} (h1 : c → A H) (h2 : ¬ c → B H) : Br (decide c) A B H := by
  by_cases h : c
  · rw [decide_eq_true h]; exact h1 h
  · rw [decide_eq_false h]; exact h2 h
theorem br_n {b : Bool} {A B : Hp → Prop} (h : Br b B A H) : Br (!b) A B H := by cases b <;> exact h
theorem br_b {b : Bool} {A B : Hp → Prop} (h1 : b = true → A H) (h2 : b = false → B H) : Br b A B H := by
  cases b
  · exact h2 rfl
  · exact h1 rfl
theorem br_yes {b : Bool} {A B : Hp → Prop} (e : b = true) (h : A H) : Br b A B H := by rw [e]; exact h
theorem br_no {b : Bool} {A B : Hp → Prop} (e : b = false) (h : B H) : Br b A B H := by rw [e]; exact h

/-! statements -/
theorem u_seq {t u : TS} (h : t { D with nx := u D } σ H) : tSeq t u D σ H := h
theorem u_next (q : D.nx σ H) : tNext D σ H := q
theorem u_asg {g : TG} (h : te σ H fun x H1 => g x σ H1 D.nx) : tAsg te g D σ H := h
theorem u_drop (h : te σ H fun _ H1 => D.nx σ H1) : tDrop te D σ H := h
theorem u_ret (h : te σ H D.rt) : tRet te D σ H := h
theorem u_retN (h : D.rt .non H) : tRetN D σ H := h
theorem u_if {c : TT} {t u : TS} (h : c σ H fun b H1 => Br b (t D σ) (u D σ) H1) : tIfS c t u D σ H := h
theorem u_brk (q : D.bk σ H) : tBreak D σ H := q
theorem u_cont (q : D.ct σ H) : tCont D σ H := q
theorem u_cut {t u : TS} (Mid : L2.St → Hp → Prop) (h1 : t { D with nx := Mid } σ H) (h2 : ∀ σ' H', Mid σ' H' → u D σ' H') : C8.tCut t u D σ H := ⟨Mid, h1, h2⟩
theorem u_par {i j : Nat} {x y : V} (q : D.nx ((σ.set i (some x)).set j (some y)) H) : (∃ v w, [x, y] = [v, w] ∧ D.nx ((σ.set i (some v)).set j (some w)) H) := ⟨x, y, rfl, q⟩
theorem u_tpar {i j : Nat} (h : ta σ H fun x H1 => tb σ H1 fun y H2 => D.nx ((σ.set i (some x)).set j (some y)) H2) : tPar i j (tCons ta (tCons tb tNil)) D σ H := by
  show ta σ H fun x H1 => tb σ H1 fun y H2 => ∃ v w, [x, y] = [v, w] ∧ D.nx ((σ.set i (some v)).set j (some w)) H2
  have e : (fun (x : V) (H1 : Hp) => tb σ H1 fun y H2 => D.nx ((σ.set i (some x)).set j (some y)) H2) = fun x H1 => tb σ H1 fun y H2 => ∃ v w, [x, y] = [v, w] ∧ D.nx ((σ.set i (some v)).set j (some w)) H2 := by
    funext x H1
    congr 1
    funext y H2
    apply propext
    constructor
    · intro q; exact ⟨x, y, rfl, q⟩
    · rintro ⟨v, w, ev, q⟩
      cases ev
      exact q
  rw [← e]
  exact h
theorem g_name {i : Nat} {v : V} {Q : L2.St → Hp → Prop} (q : Q (σ.set i (some v)) H) : gName i v σ H Q := q
theorem g_nil {Q : L2.St → Hp → Prop} (q : Q σ H) : gNil [] σ H Q := ⟨rfl, q⟩
theorem g_cons {g : TG} {u : TGs} {v : V} {r : List V} {Q : L2.St → Hp → Prop} (h : g v σ H fun σ' H' => u r σ' H' Q) : gCons g u (v :: r) σ H Q := ⟨v, r, rfl, h⟩
theorem g_tup {n : Nat} {g : TGs} {a : Addr} {xs : List V} {Q : L2.St → Hp → Prop} (hs : SqT K H a xs) (hl : xs.length = n) (h : g xs σ H Q) : gTup K n g (.ref a) σ H Q := ⟨a, xs, rfl, hs, hl, h⟩
theorem g_sub {to ti : TE} {s : TSet} {v : V} {Q : L2.St → Hp → Prop} (h : to σ H fun o H1 => ti σ H1 fun i H2 => s o i v H2 fun H3 => Q σ H3) : gSub to ti s v σ H Q := h
theorem s_list {p : Addr} {xs : List V} {k : Int} {j : Nat} {v : V} {Q : Hp → Prop} (h : H p = some (.lst xs)) (e : ixN xs.length k = some j) (q : ∀ H', Kp [p] H H' → H' p = some (.lst (xs.set j v)) → Q H') : rSetL (.ref p) (.int k) v H Q :=
  ⟨p, xs, k, j, rfl, rfl, h, e, q _ Kp.mut upd_same⟩

/-! objects made -/
theorem u_tup (h : t σ H fun xs H1 => xs.length ≤ sizeLine ∧ ∀ p, H1 p = none → Q (.ref p) (upd H1 p (.tup xs))) : tTup t σ H Q := h
def NewT (xs : List V) (H : Hp) (Q : VK) : Prop := xs.length ≤ sizeLine ∧ ∀ p, H p = none → Q (.ref p) (upd H p (.tup xs))
def NewL (xs : List V) (H : Hp) (Q : VK) : Prop := xs.length ≤ sizeLine ∧ ∀ p, H p = none → Q (.ref p) (upd H p (.lst xs))
theorem u_tupN (h : t σ H fun xs H1 => NewT xs H1 Q) : tTup t σ H Q := h
theorem u_lstN (h : t σ H fun xs H1 => NewL xs H1 Q) : tLst t σ H Q := h
theorem n_tup {xs : List V} (hl : xs.length ≤ 100000) (k : ∀ p H', H p = none → Kp [] H H' → H' p = some (.tup xs) → Q (.ref p) H') : NewT xs H Q :=
  ⟨Nat.le_trans hl (by decide), fun p hp => k p _ hp (Kp.new hp) upd_same⟩
theorem n_lst {xs : List V} (hl : xs.length ≤ 100000) (k : ∀ p H', H p = none → Kp [] H H' → H' p = some (.lst xs) → Q (.ref p) H') : NewL xs H Q :=
  ⟨Nat.le_trans hl (by decide), fun p hp => k p _ hp (Kp.new hp) upd_same⟩

/-! reads -/
theorem u_ixL {p : Addr} {xs : List V} {i : Int} {v : V} (h : SqL K H p xs) (e : atI xs i = some v) (q : Q v H) : rIxL K (.ref p) (.int i) H Q := ⟨p, xs, i, v, rfl, rfl, h, e, q⟩
theorem u_ixT {p : Addr} {xs : List V} {i : Int} {v : V} (h : SqT K H p xs) (e : atI xs i = some v) (q : Q v H) : rIxT K (.ref p) (.int i) H Q := ⟨p, xs, i, v, rfl, rfl, h, e, q⟩
theorem sql {p : Addr} {xs : List V} (h : H p = some (.lst xs)) : SqL K H p xs := .inl (.inl h)
theorem sqt {p : Addr} {xs : List V} (h : H p = some (.tup xs)) : SqT K H p xs := .inl (.inl h)
theorem u_fld {f : Str} {a C dx : Addr} {fs : List (Str × V)} {v : V} (h : ta σ H fun x H1 => x = .ref a ∧ H1 a = some (.ins C dx fs) ∧ Cls K C ∧ NoAttr K C f ∧ fs.lookup f = some v ∧ Q v H1) (mono : ∀ Q1 Q2 : VK, (∀ x H', Q1 x H' → Q2 x H') → ta σ H Q1 → ta σ H Q2) : tFld K ta f σ H Q :=
  mono _ _ (fun x H' z => ⟨a, C, dx, fs, v, z⟩) h
/-- o.f, o known -/
def FldOf (K : PySem.W.Frag) (f : Str) (x : V) (H : Hp) (Q : VK) : Prop := ∃ a C dx fs v, x = .ref a ∧ H a = some (.ins C dx fs) ∧ Cls K C ∧ NoAttr K C f ∧ fs.lookup f = some v ∧ Q v H
theorem u_fldN {f : Str} (h : ta σ H fun x H1 => FldOf K f x H1 Q) : tFld K ta f σ H Q := h
theorem fld_of {f : Str} {a C dx : Addr} {fs : List (Str × V)} {v : V} (hc : Cls K C) (hn : NoAttr K C f) (h : H a = some (.ins C dx fs)) (hl : fs.lookup f = some v) (q : Q v H) : FldOf K f (.ref a) H Q := ⟨a, C, dx, fs, v, rfl, h, hc, hn, hl, q⟩

/-! built-in calls -/
def rAbs : List V → Hp → VK → Prop := fun xs H Q => ∃ i, xs = [.int i] ∧ Q (.int (if i < 0 then -i else i)) H
def rMax2 : List V → Hp → VK → Prop := fun xs H Q => ∃ i j, xs = [.int i, .int j] ∧ Q (.int (if j > i then j else i)) H
def rMin2 : List V → Hp → VK → Prop := fun xs H Q => ∃ i j, xs = [.int i, .int j] ∧ Q (.int (if j < i then j else i)) H
def rInt1 : List V → Hp → VK → Prop := fun xs H Q => (∃ i, xs = [.int i] ∧ Q (.int i) H) ∨ ∃ k, xs = [.bl k] ∧ Q (.int (if k then 1 else 0)) H
def rLenA (K : PySem.W.Frag) : List V → Hp → VK → Prop := fun xs H Q => ∃ p ys, xs = [.ref p] ∧ (SqL K H p ys ∨ SqT K H p ys) ∧ Q (.int ys.length) H
section
variable {X : Cx}
theorem c_abs : CallR X (.builtin "abs") rAbs := call_abs
theorem c_max2 (hc : X.calm = true) : CallR X (.builtin "max") rMax2 := call_max2 hc
theorem c_min2 (hc : X.calm = true) : CallR X (.builtin "min") rMin2 := call_min2 hc
theorem c_int1 : CallR X (.type "int") rInt1 := call_int1
theorem c_len : CallR X (.builtin "len") (rLenA X.K) := call_len_seq
end
theorem u_abs {i : Int} (q : Q (.int (if i < 0 then -i else i)) H) : rAbs [.int i] H Q := ⟨i, rfl, q⟩
theorem u_max2 {i j : Int} (q : Q (.int (if j > i then j else i)) H) : rMax2 [.int i, .int j] H Q := ⟨i, j, rfl, q⟩
theorem u_min2 {i j : Int} (q : Q (.int (if j < i then j else i)) H) : rMin2 [.int i, .int j] H Q := ⟨i, j, rfl, q⟩
theorem u_int1 {i : Int} (q : Q (.int i) H) : rInt1 [.int i] H Q := .inl ⟨i, rfl, q⟩
theorem u_intB {k : Bool} (q : Q (.int (if k then 1 else 0)) H) : rInt1 [.bl k] H Q := .inr ⟨k, rfl, q⟩
theorem u_lenL {p : Addr} {ys : List V} (h : SqL K H p ys) (q : Q (.int ys.length) H) : rLenA K [.ref p] H Q := ⟨p, ys, rfl, .inl h, q⟩
theorem u_lenT {p : Addr} {ys : List V} (h : SqT K H p ys) (q : Q (.int ys.length) H) : rLenA K [.ref p] H Q := ⟨p, ys, rfl, .inr h, q⟩
theorem u_gcd {a b : Int} (q : Q (.int ((Nat.gcd a.natAbs b.natAbs : Nat) : Int)) H) : rGcd [.int a, .int b] H Q := ⟨a, b, rfl, q⟩
theorem u_isi {x : V} {A B : String} {b : Bool} (ty : TyX K H x (.type A)) (hb : kitB A B = some b) (q : Q (.bl b) H) : rIsi K [x, .ty B] H Q := ⟨x, .ty B, _, _, b, rfl, .ty B, ty, kit_ty hb, q⟩
theorem kB_ii : kitB "int" "int" = some true := by decide +kernel
theorem kB_ib : kitB "int" "bool" = some false := by decide +kernel
theorem kB_bb : kitB "bool" "bool" = some true := by decide +kernel
theorem kB_bi : kitB "bool" "int" = some true := by decide +kernel
theorem kB_ss : kitB "str" "str" = some true := by decide +kernel
theorem kB_sb : kitB "str" "bool" = some false := by decide +kernel
theorem kB_si : kitB "str" "int" = some false := by decide +kernel
theorem kB_is : kitB "int" "str" = some false := by decide +kernel
theorem kB_bs : kitB "bool" "str" = some false := by decide +kernel
theorem u_isi_ii {i : Int} (q : Q (.bl true) H) : rIsi K [.int i, .ty "int"] H Q := u_isi (.base (.int i)) kB_ii q
theorem u_isi_ib {i : Int} (q : Q (.bl false) H) : rIsi K [.int i, .ty "bool"] H Q := u_isi (.base (.int i)) kB_ib q
theorem u_isi_bb {i : Bool} (q : Q (.bl true) H) : rIsi K [.bl i, .ty "bool"] H Q := u_isi (.base (.bl i)) kB_bb q

/-! loops -/
theorem w_by {c : TT} {tb : TS} (Pv : L2.St → Hp → Prop) (μ : L2.St → Hp → Nat) (h0 : Pv σ H)
    (hs : ∀ σ H, Pv σ H → c σ H fun b H1 => Br b (fun H2 => tb { D with nx := fun σ' H' => Pv σ' H' ∧ μ σ' H' < μ σ H, ct := fun σ' H' => Pv σ' H' ∧ μ σ' H' < μ σ H, bk := D.nx } σ H2) (fun H2 => D.nx σ H2) H1)
    (mono : ∀ σ H Q Q', (∀ b H1, Q b H1 → Q' b H1) → c σ H Q → c σ H Q') : tWhile c tb D σ H := while_by Pv μ h0 hs mono
theorem f_list {wi : TI} {g : TG} {tb : TS} {D : Ends} (h : wi σ H fun J H1 => ∃ W : Nat → Nat → L2.St → Hp → Prop, (∃ m, W 0 m σ H1) ∧ ∀ i m σ H, W i m σ H →
      (J.stop i H ∧ D.nx σ H) ∨ (J.go i H ∧ ∃ N : L2.St → Hp → Prop, (∀ σ' H', N σ' H' → ∃ m', m' < m ∧ W (i + 1) m' σ' H') ∧ ∀ x H', J.yld i H x H' → g x σ H' fun σ2 H2 => tb { D with nx := N, ct := N, bk := D.nx } σ2 H2)) : tFor wi g tb D σ H := h
end

/-! ## defs -/
/-- the def st stands as x -/
def Df (K : PySem.W.Frag) (mg : Str → Option Value) (x : Str) (st : Stmt) : Prop := ∃ f fd, mg x = some (.ref f) ∧ Fun K x x st f fd
theorem df_of {K : PySem.W.Frag} {h : Heap} {mg : Str → Option Value} {x : Str} {st : Stmt} {f : Addr} (X : K.In h) (G : h.Ns mainGlobals mg)
    {od an : Option Addr} {sl : Array (Option Value)} {oc kV dc pm cd ct : Value}
    (a : PySem.W.nsIn K mainGlobals x = some (some (.ref f))) (l : K.lookup f = some ⟨oc, od, .func (PySem.W.fnOf x x (defArgs st) (defBody st) (defScope st) .none kV dc pm an cd ct), sl⟩)
    (c : PySem.W.codeIn K cd x = true) (k : PySem.W.keepIn K (.ref f) = true) : Df K mg x st := ⟨f, _, PySem.W.mg_of X G a, fun_mk l c k⟩
/-- the def x keeps the promise sp -/
def Fc (P : Program) (w : World) (K : PySem.W.Frag) (mg : Str → Option Value) (base : Heap) (CX : CXT) (k : Nat) (x : Str) (ps : List Str) (sp : Sp) : Prop :=
  ∃ f fd, FnOk P w K mg base CX k f fd ps sp ∧ mg x = some (.ref f) ∧ PySem.W.keepIn K (.ref f) = true ∧ Binds K fd ps []
section
variable {P : Program} {w : World} {K : PySem.W.Frag} {mg : Str → Option Value} {base : Heap} {x : Str} {st : Stmt} {ps N : List Str} {k : Nat} {sp : Sp}
theorem fc_of (F : Df K mg x st) (S : FnScope N ps (defScope st)) (len : ∀ vs H Q E, sp vs H Q E → vs.length = ps.length)
    (hb : ∀ (kV doc pm : Value) (an : Option Addr) (cdv ct : Value) (us : List Value), us.length = ps.length → bindArgs (PySem.W.fnOf x x (defArgs st) (defBody st) (defScope st) .none kV doc pm an cdv ct) ⟨us, []⟩ = pure (ps.zip us))
    (hbody : ∀ (f : Addr) (cdv : Value) (A : Around) (outer : List Env) (s : Shared) (H : Hp) (vs : List V) (Q : VK) (E : XK), Room k (A.deeper (envOfC x (defScope st) s.heap.objs.size f cdv)) → sp vs H Q E →
      ∃ t, PSs (cxOf CX0 P w K mg base N x (defScope st) f cdv A outer s H E).nox (defBody st) t ∧ t { nx := fun _ H' => Q .non H', rt := Q } (start N vs) H) : Fc P w K mg base CX0 (k + 1) x ps sp := by
  obtain ⟨f, fd, hm, F⟩ := F
  exact ⟨f, fd, F.ok S len (hbody f), hm, F.kp, F.binds hb⟩
theorem fc_ofX (F : Df K mg x st) (S : FnScope N ps (defScope st)) (len : ∀ vs H Q E, sp vs H Q E → vs.length = ps.length)
    (hb : ∀ (kV doc pm : Value) (an : Option Addr) (cdv ct : Value) (us : List Value), us.length = ps.length → bindArgs (PySem.W.fnOf x x (defArgs st) (defBody st) (defScope st) .none kV doc pm an cdv ct) ⟨us, []⟩ = pure (ps.zip us))
    (hbody : ∀ (f : Addr) (cdv : Value) (A : Around) (outer : List Env) (s : Shared) (H : Hp) (vs : List V) (Q : VK) (E : XK), Room k (A.deeper (envOfC x (defScope st) s.heap.objs.size f cdv)) → sp vs H Q E →
      ∃ t, PSs (cxOf (L2.CX P w) P w K mg base N x (defScope st) f cdv A outer s H E) (defBody st) t ∧ t { nx := fun _ H' => Q .non H', rt := Q } (start N vs) H) : Fc P w K mg base (L2.CX P w) (k + 1) x ps sp := by
  obtain ⟨f, fd, hm, F⟩ := F
  exact ⟨f, fd, F.okX S len (hbody f), hm, F.kp, F.binds hb⟩
end
section
variable {X : Cx} {CX : CXT} {k : Nat} {x : Str} {ps : List Str} {sp : Sp} {E : XK} {p pos : Pos} {e : Expr} {es : List Expr} {t : TA}
theorem pe_fc (F : Fc X.prog X.w X.K X.mg X.base CX k x ps sp) (hx : Passes CX X E) (hr : Room k X.A) (ha : PA X (e :: es) t) (hg : Gl X x := by rfl) (hdb : (x == ("__debug__" : Str)) = false := by decide)
    (he : starEach (e :: es) X.env = (false, eval e X.env) :: starEach es X.env := by rfl) (hpl : (backTo pos (starEach es X.env)).any (·.1) = false := by rfl) : PE X (.Call (.Name x p) (e :: es) [] pos) (tCall sp [] E t) := by
  obtain ⟨f, fd, F, hm, hk, hb⟩ := F
  exact pe_call F hr hg hm hk hb .nil hx ha hdb he hpl
end
/-! ## searches -/
section
variable {M : List Addr} {H H' H0 H1 Hk : Hp} {p a b : Addr} {o u : HO}
theorem Kp.low' (k : Kp M H0 H) (k1 : Kp [p] H H1) (n : Hk p = none) (kf : Kp M H0 Hk) : Kp M H0 H1 := fun b o nb e => by
  refine k1 b o ?_ (k b o nb e)
  intro z
  have z' : b = p := by simpa using z
  have q := kf b o nb e
  rw [z', n] at q; cases q
theorem ne_new (h' : H b = none) (h : H a = some o) : a ≠ b := ne_of_none h h'
theorem ne_new' (h' : H b = none) (h : H a = some o) : b ≠ a := (ne_of_none h h').symm
theorem u_app (q : (if a = a then True else False)) : True := trivial
end
/-! ## the pool of draws -/
def Pool (H : Hp) (a : Addr) : Prop := ∃ c x n k : Int, H a = some (.lst [.int c, .int x, .int n, .int k])
theorem Pool.kp0 {H H' : Hp} {a : Addr} (k : Kp [] H H') (h : Pool H a) : Pool H' a := by
  obtain ⟨c, x, n, j, e⟩ := h
  exact ⟨c, x, n, j, k.get0 e⟩
theorem Pool.kp1 {H H' : Hp} {a p : Addr} (k : Kp [p] H H') (hn : a ≠ p) (h : Pool H a) : Pool H' a := by
  obtain ⟨c, x, n, j, e⟩ := h
  exact ⟨c, x, n, j, k.get1 hn e⟩
theorem Pool.ne {H : Hp} {a b : Addr} (h' : H b = none) (h : Pool H a) : a ≠ b := by
  obtain ⟨c, x, n, j, e⟩ := h
  exact ne_of_none e h'
/-- the script: any list of ints that no one writes -/
def Scr (K : PySem.W.Frag) (H : Hp) (a : Addr) (ns : List Int) : Prop := (∃ o, H a = some (.frz o (.lst (ns.map V.int)))) ∨ ∀ H', SqL K H' a (ns.map V.int)
theorem Scr.sq {K : PySem.W.Frag} {H : Hp} {a : Addr} {ns : List Int} (h : Scr K H a ns) : SqL K H a (ns.map V.int) := by
  rcases h with ⟨o, e⟩ | h
  · exact .inl (.inr ⟨o, e⟩)
  · exact h H
theorem Scr.kp0 {K : PySem.W.Frag} {H H' : Hp} {a : Addr} {ns : List Int} (k : Kp [] H H') (h : Scr K H a ns) : Scr K H' a ns := by
  rcases h with ⟨o, e⟩ | h
  · exact .inl ⟨o, k.get0 e⟩
  · exact .inr h
theorem Scr.kp1 {K : PySem.W.Frag} {H H' Hk : Hp} {a p : Addr} {ns : List Int} (k : Kp [p] H H') (n : Hk p = none) (hk : Scr K Hk a ns) (h : Scr K H a ns) : Scr K H' a ns := by
  rcases h with ⟨o, e⟩ | h
  · rcases hk with ⟨o', e'⟩ | hk
    · exact .inl ⟨o, k.get1 (ne_of_none e' n) e⟩
    · exact .inr hk
  · exact .inr h
theorem Scr.of {K : PySem.W.Frag} {H : Hp} {a : Addr} {ns : List Int} (hO : Only H) (h : SqL K H a (ns.map V.int)) : Scr K H a ns := by
  rcases h with (h | ⟨o, h⟩) | h
  · rcases hO a with e | ⟨o, xs, e⟩
    · rw [e] at h; cases h
    · rw [e] at h; cases h
  · exact .inl ⟨o, h⟩
  · exact .inr fun H' => .inr h
/-! ## items -/
theorem atI_int {ns : List Int} {i : Int} (h0 : 0 ≤ i) (h1 : i < ((ns.map V.int).length : Int)) : ∃ z, atI (ns.map V.int) i = some (.int z) := by
  rw [List.length_map] at h1
  have hl : i.toNat < ns.length := by omega
  obtain ⟨n, rfl⟩ : ∃ n : Nat, i = (n : Int) := ⟨i.toNat, by omega⟩
  have hn : n < ns.length := by omega
  refine ⟨ns[n], atI_nat ?_⟩
  rw [List.getElem?_map, List.getElem?_eq_getElem hn]
  rfl
theorem pow_c {i : Int} (h : i.natAbs < 2 ^ 64) {j : Int} (h0 : 0 ≤ j) (h1 : j ≤ 1000000) : CPow i j := ⟨h0, h1, h⟩
theorem item_int {ns : List Int} {i : Nat} {y : V} (h : (ns.map V.int)[i]? = some y) : ∃ z, y = V.int z := by
  rw [List.getElem?_map] at h
  cases e : ns[i]? with
  | none => rw [e] at h; cases h
  | some z => rw [e] at h; exact ⟨z, (Option.some.inj h).symm⟩
/-- a slice of a list -/
def SlLN (K : PySem.W.Frag) (a : Addr) (lo hi : Option Int) (H : Hp) (Q : VK) : Prop := ∃ xs, SqL K H a xs ∧ ∀ p, H p = none → Q (.ref p) (upd H p (.lst (cutV xs lo hi)))
theorem u_slL {K : PySem.W.Frag} {H : Hp} {Q : VK} {a : Addr} {lo hi : Option Int} {xs : List V} (h : SqL K H a xs) (k : ∀ p H', H p = none → Kp [] H H' → H' p = some (.lst (cutV xs lo hi)) → Q (.ref p) H') : rSlL K (.ref a) lo hi H Q :=
  ⟨a, xs, rfl, h, fun p hp => k p _ hp (Kp.new hp) upd_same⟩
theorem u_sl {σ : L2.St} {H : Hp} {Q : VK} {r : V → Option Int → Option Int → Hp → VK → Prop} {te : TE} {tl th : TO} (h : te σ H fun x H1 => tl σ H1 fun l H2 => th σ H2 fun u H3 => r x l u H3 Q) : tSl r te tl th σ H Q := h
theorem u_noPart {σ : L2.St} {H : Hp} {Q : Option Int → Hp → Prop} (q : Q none H) : tNoPart σ H Q := q
def IntQ (x : V) (Q : Option Int → Hp → Prop) (H : Hp) : Prop := ∃ i, x = .int i ∧ Q (some i) H
theorem u_part {σ : L2.St} {H : Hp} {Q : Option Int → Hp → Prop} {t : TE} (h : t σ H fun x H1 => IntQ x Q H1) : tPart t σ H Q := h
theorem u_intq {i : Int} {H : Hp} {Q : Option Int → Hp → Prop} (q : Q (some i) H) : IntQ (.int i) Q H := ⟨i, rfl, q⟩
theorem cutV_map {ns : List Int} {lo hi : Option Int} : ∃ ms : List Int, cutV (ns.map V.int) lo hi = ms.map V.int ∧ ms.length ≤ ns.length := by
  refine ⟨(ns.drop (HT.sIx (ns.map V.int).length 0 lo)).take (HT.sIx (ns.map V.int).length (ns.map V.int).length hi - HT.sIx (ns.map V.int).length 0 lo), ?_, ?_⟩
  · unfold cutV
    rw [List.map_take, List.map_drop]
  · rw [List.length_take, List.length_drop]; omega
/-! ## loops, once more -/
def LoopQ (J : It) (g : TG) (tb : TS) (D : Ends) (σ : L2.St) (H1 : Hp) : Prop := ∃ W : Nat → Nat → L2.St → Hp → Prop, (∃ m, W 0 m σ H1) ∧ ∀ i m σ H, W i m σ H →
  (J.stop i H ∧ D.nx σ H) ∨ (J.go i H ∧ ∃ N : L2.St → Hp → Prop, (∀ σ' H', N σ' H' → ∃ m', m' < m ∧ W (i + 1) m' σ' H') ∧ ∀ x H', J.yld i H x H' → g x σ H' fun σ2 H2 => tb { D with nx := N, ct := N, bk := D.nx } σ2 H2)
section
variable {K : PySem.W.Frag} {g : TG} {tb : TS} {D : Ends} {σ : L2.St} {H : Hp}
theorem u_for {wi : TI} (h : wi σ H fun J H1 => LoopQ J g tb D σ H1) : tFor wi g tb D σ H := h
def ItLq (K : PySem.W.Frag) (x : V) (R : It → Hp → Prop) (H : Hp) : Prop := ∃ a, x = .ref a ∧ (∃ xs, SqL K H a xs) ∧ R (Itl K a) H
def ItTq (K : PySem.W.Frag) (x : V) (R : It → Hp → Prop) (H : Hp) : Prop := ∃ a, x = .ref a ∧ (∃ xs, SqT K H a xs) ∧ R (Itt K a) H
theorem u_iL {tl : TE} {R : It → Hp → Prop} (h : tl σ H fun x H1 => ItLq K x R H1) : iList K tl σ H R := h
theorem u_iT {tl : TE} {R : It → Hp → Prop} (h : tl σ H fun x H1 => ItTq K x R H1) : iTup K tl σ H R := h
theorem u_iLq {a : Addr} {xs : List V} {R : It → Hp → Prop} (h : SqL K H a xs) (q : R (Itl K a) H) : ItLq K (.ref a) R H := ⟨a, rfl, ⟨xs, h⟩, q⟩
theorem u_iTq {a : Addr} {xs : List V} {R : It → Hp → Prop} (h : SqT K H a xs) (q : R (Itt K a) H) : ItTq K (.ref a) R H := ⟨a, rfl, ⟨xs, h⟩, q⟩
def ItR1 (vs : List V) (R : It → Hp → Prop) (H : Hp) : Prop := ∃ j : Int, vs = [.int j] ∧ -(2 ^ 62) ≤ j ∧ j < 2 ^ 62 ∧ R (Itr 0 j.toNat) H
def ItR2 (vs : List V) (R : It → Hp → Prop) (H : Hp) : Prop := ∃ i j : Int, vs = [.int i, .int j] ∧ (-(2 ^ 62) ≤ i ∧ i < 2 ^ 62 ∧ -(2 ^ 62) ≤ j ∧ j < 2 ^ 62) ∧ R (Itr i (j - i).toNat) H
theorem u_r1 {ta : TA} {R : It → Hp → Prop} (h : ta σ H fun vs H1 => ItR1 vs R H1) : iRng1 ta σ H R := h
theorem u_r2 {ta : TA} {R : It → Hp → Prop} (h : ta σ H fun vs H1 => ItR2 vs R H1) : iRng2 ta σ H R := h
theorem u_r1q {j : Int} {R : It → Hp → Prop} (h : -(2 ^ 62) ≤ j ∧ j < 2 ^ 62) (q : R (Itr 0 j.toNat) H) : ItR1 [.int j] R H := ⟨j, rfl, h.1, h.2, q⟩
theorem u_r2q {i j : Int} {R : It → Hp → Prop} (h : -(2 ^ 62) ≤ i ∧ i < 2 ^ 62 ∧ -(2 ^ 62) ≤ j ∧ j < 2 ^ 62) (q : R (Itr i (j - i).toNat) H) : ItR2 [.int i, .int j] R H := ⟨i, j, rfl, h, q⟩
theorem l_list {a : Addr} (xs : List V) (Pv : Nat → L2.St → Hp → Prop) (h0 : Pv 0 σ H) (hl : ∀ i σ H, i ≤ xs.length → Pv i σ H → SqL K H a xs)
    (hs : ∀ i x σ H, xs[i]? = some x → Pv i σ H → g x σ H fun σ2 H2 => tb { D with nx := Pv (i + 1), ct := Pv (i + 1), bk := D.nx } σ2 H2) (hd : ∀ σ H, Pv xs.length σ H → D.nx σ H) : LoopQ (Itl K a) g tb D σ H := for_list Pv h0 hl hs hd
theorem l_tup {a : Addr} (xs : List V) (Pv : Nat → L2.St → Hp → Prop) (h0 : Pv 0 σ H) (hl : ∀ i σ H, i ≤ xs.length → Pv i σ H → SqT K H a xs)
    (hs : ∀ i x σ H, xs[i]? = some x → Pv i σ H → g x σ H fun σ2 H2 => tb { D with nx := Pv (i + 1), ct := Pv (i + 1), bk := D.nx } σ2 H2) (hd : ∀ σ H, Pv xs.length σ H → D.nx σ H) : LoopQ (Itt K a) g tb D σ H := for_tup Pv h0 hl hs hd
theorem l_range {lo : Int} {n : Nat} (Pv : Nat → L2.St → Hp → Prop) (h0 : Pv 0 σ H)
    (hs : ∀ i σ H, i < n → Pv i σ H → g (.int (lo + i)) σ H fun σ2 H2 => tb { D with nx := Pv (i + 1), ct := Pv (i + 1), bk := D.nx } σ2 H2) (hd : ∀ σ H, Pv n σ H → D.nx σ H) : LoopQ (Itr lo n) g tb D σ H := for_range Pv h0 hs hd
end
/-! ## what the operators ask of numbers -/
theorem two64 : (2 : Int) ^ 64 = 18446744073709551616 := by decide +kernel
theorem cmul_of {i j : Int} (h : (-18446744073709551616 < i ∧ i < 18446744073709551616) ∨ (-18446744073709551616 < j ∧ j < 18446744073709551616)) : CMul i j := by
  unfold CMul
  rw [two64]
  exact h
theorem cpow_of {i j : Int} (h : 0 ≤ j ∧ j ≤ 1000000 ∧ -18446744073709551616 < i ∧ i < 18446744073709551616) : CPow i j := by
  refine ⟨h.1, h.2.1, ?_⟩
  have e : (2 : Nat) ^ 64 = 18446744073709551616 := by decide +kernel
  rw [e]
  omega
theorem cdivw_of {i j : Int} (h : 0 < j ∧ j < 18446744073709551616) : CDivW i j := by
  refine wide_div (b := 64) h.1 ?_ (by decide) (by decide)
  have e : (2 : Nat) ^ 64 = 18446744073709551616 := by decide +kernel
  rw [e]
  omega
/-! ## the built-in names -/
theorem b_len : bootBuiltins "len" = some (.builtin "len") := by decide +kernel
theorem b_abs : bootBuiltins "abs" = some (.builtin "abs") := by decide +kernel
theorem b_max : bootBuiltins "max" = some (.builtin "max") := by decide +kernel
theorem b_min : bootBuiltins "min" = some (.builtin "min") := by decide +kernel
theorem b_isinstance : bootBuiltins "isinstance" = some (.builtin "isinstance") := by decide +kernel
theorem b_sum : bootBuiltins "sum" = some (.builtin "sum") := by decide +kernel
theorem b_sorted : bootBuiltins "sorted" = some (.builtin "sorted") := by decide +kernel
theorem b_any : bootBuiltins "any" = some (.builtin "any") := by decide +kernel
theorem b_all : bootBuiltins "all" = some (.builtin "all") := by decide +kernel
theorem b_divmod : bootBuiltins "divmod" = some (.builtin "divmod") := by decide +kernel
theorem b_ord : bootBuiltins "ord" = some (.builtin "ord") := by decide +kernel
theorem b_chr : bootBuiltins "chr" = some (.builtin "chr") := by decide +kernel
theorem b_pow : bootBuiltins "pow" = some (.builtin "pow") := by decide +kernel
theorem b_hash : bootBuiltins "hash" = some (.builtin "hash") := by decide +kernel
theorem b_repr : bootBuiltins "repr" = some (.builtin "repr") := by decide +kernel
theorem b_next : bootBuiltins "next" = some (.builtin "next") := by decide +kernel
theorem b_iter : bootBuiltins "iter" = some (.builtin "iter") := by decide +kernel
theorem b_int : bootBuiltins "int" = some (.type "int") := by decide +kernel
theorem b_str : bootBuiltins "str" = some (.type "str") := by decide +kernel
theorem b_bool : bootBuiltins "bool" = some (.type "bool") := by decide +kernel
theorem b_list : bootBuiltins "list" = some (.type "list") := by decide +kernel
theorem b_tuple : bootBuiltins "tuple" = some (.type "tuple") := by decide +kernel
theorem b_dict : bootBuiltins "dict" = some (.type "dict") := by decide +kernel
theorem b_set : bootBuiltins "set" = some (.type "set") := by decide +kernel
theorem b_range : bootBuiltins "range" = some (.type "range") := by decide +kernel
theorem b_enumerate : bootBuiltins "enumerate" = some (.type "enumerate") := by decide +kernel
theorem b_reversed : bootBuiltins "reversed" = some (.type "reversed") := by decide +kernel
theorem b_zip : bootBuiltins "zip" = some (.type "zip") := by decide +kernel
theorem b_type : bootBuiltins "type" = some (.type "type") := by decide +kernel
theorem b_ValueError : bootBuiltins "ValueError" = some (.type "ValueError") := by decide +kernel
theorem b_map : bootBuiltins "map" = some (.type "map") := by decide +kernel
theorem b_filter : bootBuiltins "filter" = some (.type "filter") := by decide +kernel
theorem b_frozenset : bootBuiltins "frozenset" = some (.type "frozenset") := by decide +kernel
theorem cdivw_big {i j : Int} (h : 0 < j ∧ j ≤ 10000000000000000000000000000000000000000000000000000000000000000000000) : CDivW i j := by
  refine wide_div (b := 256) h.1 ?_ (by decide) (by decide)
  have e : (2 : Nat) ^ 256 = 115792089237316195423570985008687907853269984665640564039457584007913129639936 := by decide +kernel
  rw [e]
  omega
/-- a power of two written numbers -/
theorem u_pow {i j v : Int} {H : Hp} {Q : VK} (c : CPow i j) (e : i ^ j.toNat = v) (q : Q (.int v) H) : rI CPow (fun i j => V.int (i ^ j.toNat)) (.int i) (.int j) H Q := ⟨i, j, rfl, rfl, c, by show Q (.int (i ^ j.toNat)) H; rw [e]; exact q⟩
/-! ## new instances, at the slots -/
def NewI (C : Addr) (sp : Sp) (vs : List V) (H : Hp) (Q : VK) (E : XK) : Prop :=
  ∀ x dx, H x = none → H dx = none → dx ≠ x → sp (.ref x :: vs) (upd (upd H dx (.own x)) x (.ins C dx [])) (fun v H2 => v = .non ∧ Q (.ref x) H2) E
def tNew (C : Addr) (sp : Sp) (dvs : List V) (E : L2.St → XK) (t : TA) : TE := fun σ H Q => t σ H fun vs H1 => NewI C sp (vs ++ dvs) H1 Q (E σ)
def tNewK (C : Addr) (n m : Nat) (sp : Sp) (g : List V → List V → List V) (E : L2.St → XK) (t tk : TA) : TE := fun σ H Q => t σ H fun vs H1 => tk σ H1 fun zs H2 => vs.length = n ∧ zs.length = m ∧ NewI C sp (g vs zs) H2 Q (E σ)
theorem passAll {X : Cx} {CX : CXT} {E : XK} (h : Passes CX X E) (σ : L2.St) : PassesAt CX X σ E := fun pins H s e s' I c => h pins σ H s e s' I c
section
variable {X : Cx} {CX : CXT} {k : Nat} {f C : Addr} {fd : FuncData} {ps : List Str} {sp : Sp}
theorem run_new {pins : List (Addr × Obj)} {σ : L2.St} {H : Hp} {s : Shared} {Q : VK} {E : XK} {us : List Value} {kw : List (Str × Value)} {vs : List V} (mk : Mk X.K C f) (ok : FnOk X.prog X.w X.K X.mg X.base CX k f fd ps sp) (room : Room (k + 1) X.A)
    (pass : PassesAt CX X σ E) (inv : Inv X pins σ H s)
    (bind : ∀ (x : Addr) (z : Shared), X.K.In z.heap → (V.ref x :: vs).length = ps.length → ∃ ws, BindsTo z fd ⟨Value.ref x :: us, kw⟩ (ps.zip ws) ∧ Vals (V.ref x :: vs) ws)
    (go : NewI C sp vs H Q E) : wpAny (model X.prog X.w) X.A (call (.ref C) us kw) (EP X pins σ Q) X.xe s := by
  obtain ⟨n, hn⟩ : ∃ n, n = s.heap.objs.size := ⟨_, rfl⟩
  have made := Inv.made (C := C) inv
  rw [← hn] at made
  have asked := go (n + 1) n (inv.hok.fresh (hn ▸ Nat.le_succ _)) (inv.hok.fresh (hn ▸ Nat.le_refl _)) (Nat.ne_of_lt (Nat.lt_succ_self n))
  obtain ⟨ws, bound, same⟩ := bind (n + 1) _ made.kIn (ok.len _ _ _ _ asked)
  refine wpAny_call ?_
  refine make_map (f := f) inv.kIn mk.makes mk.init (beq_iff_eq.mp mk.fn) ?_
  rw [← hn]
  refine codeAny_mono (ok.run (X.A.under (.builtin "type.__call__" ⟨.ref C :: us, kw⟩)) X.stack _ _ _ ws _ _ E (room.make C us kw) (made.env0.make C us kw) bound same asked) fun r s2 out => ?_
  match r, out with
  | .error e, out => exact pass pins _ _ e s2 made out
  | .ok (.ret u), out =>
    obtain ⟨v, H3, J, rel, isn, rest⟩ := made.after out
    subst isn
    exact ⟨rel, .ref (n + 1), H3, J, rfl, rest⟩
  | .ok .next, out => exact out.elim
  | .ok .brk, out => exact out.elim
  | .ok .cont, out => exact out.elim
variable {x : Str} {p pos : Pos} {e : Expr} {es : List Expr} {t tk : TA} {dvs : List V} {ds : List Value} {E : L2.St → XK} {kws : List Keyword} {ks : List Str} {n : Nat} {g : List Value → List Value → List Value} {gV : List V → List V → List V}
theorem pe_new (mk : Mk X.K C f) (ok : FnOk X.prog X.w X.K X.mg X.base CX k f fd ps sp) (pass : ∀ σ, PassesAt CX X σ (E σ)) (room : Room (k + 1) X.A) (named : X.mg x = some (.ref C)) (bind : Binds X.K fd ps ds) (dflt : Vals dvs ds)
    (ha : PA X (e :: es) t) (hg : Gl X x := by rfl) (hdb : (x == ("__debug__" : Str)) = false := by decide)
    (he : starEach (e :: es) X.env = (false, eval e X.env) :: starEach es X.env := by rfl) (hpl : (backTo pos (starEach es X.env)).any (·.1) = false := by rfl) :
    PE X (.Call (.Name x p) (e :: es) [] pos) (tNew C sp dvs E t) := by
  constructor
  intro pins s σ H Q inv asked
  apply wpAny_Call_Name_kw
  refine ld_glob inv hg named ?_ hdb
  refine PySem.W.callWith_K (h₀ := X.base) inv.ok.mod.kin mk.kp ?_ he hpl
  refine thn (ha.run pos pins s σ H _ inv asked) fun us s2 out => ?_
  obtain ⟨vs, H2, inv2, rel, go⟩ := out
  refine ⟨inv2.kIn, run_new mk ok room (pass σ) inv2 (fun a z hz hl => ?_) go⟩
  have all : Vals (V.ref a :: (vs ++ dvs)) (Value.ref a :: (us ++ ds)) := .cons rfl (rel.append dflt)
  exact ⟨_, bind z (Value.ref a :: us) hz (all.length.symm.trans hl), all⟩
theorem pe_newK (mk : Mk X.K C f) (ok : FnOk X.prog X.w X.K X.mg X.base CX k f fd ps sp) (pass : ∀ σ, PassesAt CX X σ (E σ)) (room : Room (k + 1) X.A) (named : X.mg x = some (.ref C)) (bind : KBn X.K fd ps (n + 1) ks g gV)
    (ha : PA X (e :: es) t) (hkw : PK X kws tk) (hg : Gl X x := by rfl) (hall : (backToKw pos (keywordEach kws X.env)).all (·.1.isSome) = true := by rfl) (hks : (backToKw pos (keywordEach kws X.env)).filterMap (·.1) = ks := by rfl)
    (hdb : (x == ("__debug__" : Str)) = false := by decide) (he : starEach (e :: es) X.env = (false, eval e X.env) :: starEach es X.env := by rfl)
    (hpl : ((backTo pos (starEach (e :: es) X.env)).any (·.1) || (backToKw pos (keywordEach kws X.env)).any (·.1.isNone)) = false := by rfl) (hgv : ∀ a vs zs, gV (V.ref a :: vs) zs = V.ref a :: gV vs zs) :
    PE X (.Call (.Name x p) (e :: es) kws pos) (tNewK C n ks.length sp gV E t tk) := by
  constructor
  intro pins s σ H Q inv asked
  apply wpAny_Call_Name_kw
  refine ld_glob inv hg named ?_ hdb
  refine PySem.W.callWith_KW (h₀ := X.base) inv.ok.mod.kin mk.kp hall ?_ hpl he
  refine thn (ha.run pos pins s σ H _ inv asked) fun us s2 out => ?_
  obtain ⟨vs, H2, inv2, rel, asked2⟩ := out
  refine thn (hkw.run pos pins s2 σ H2 _ inv2 asked2) fun ws s3 out3 => ?_
  obtain ⟨zs, H3, inv3, rel3, l1, l2, go⟩ := out3
  refine ⟨inv3.kIn, ?_⟩
  rw [hks]
  refine run_new mk ok room (pass σ) inv3 (fun a z hz hl => ?_) go
  have all : Vals (V.ref a :: vs) (Value.ref a :: us) := .cons rfl rel
  refine ⟨_, bind.to z (Value.ref a :: us) ws hz (all.length.symm.trans (congrArg Nat.succ l1)) (rel3.length.symm.trans l2), ?_⟩
  rw [← hgv]
  exact bind.rel all rel3
end
theorem u_newI {C : Addr} {sp : Sp} {dvs : List V} {E : L2.St → XK} {t : TA} {σ : L2.St} {H : Hp} {Q : VK} (h : t σ H fun vs H1 => NewI C sp (vs ++ dvs) H1 Q (E σ)) : tNew C sp dvs E t σ H Q := h
def NewK (C : Addr) (n m : Nat) (sp : Sp) (g : List V → List V → List V) (vs zs : List V) (H : Hp) (Q : VK) (E : XK) : Prop := vs.length = n ∧ zs.length = m ∧ NewI C sp (g vs zs) H Q E
theorem u_newK {C : Addr} {n m : Nat} {sp : Sp} {g : List V → List V → List V} {E : L2.St → XK} {t tk : TA} {σ : L2.St} {H : Hp} {Q : VK} (h : t σ H fun vs H1 => tk σ H1 fun zs H2 => NewK C n m sp g vs zs H2 Q (E σ)) : tNewK C n m sp g E t tk σ H Q := h
theorem newK {C : Addr} {n m : Nat} {sp : Sp} {g : List V → List V → List V} {vs zs : List V} {H : Hp} {Q : VK} {E : XK} (h1 : vs.length = n) (h2 : zs.length = m) (h : NewI C sp (g vs zs) H Q E) : NewK C n m sp g vs zs H Q E := ⟨h1, h2, h⟩
/-- a new instance: what was there stands -/
theorem Kp.inst {H H1 : Hp} {x dx C : Addr} {M : List Addr} (nx : H x = none) (nd : H dx = none) (k : Kp [x] (upd (upd H dx (.own x)) x (.ins C dx [])) H1) : Kp M H H1 := fun b o _ e =>
  k b o (by simpa using ne_of_none e nx) (by rw [upd_ne (ne_of_none e nx), upd_ne (ne_of_none e nd)]; exact e)
/-! ## stores into fields -/
def SFq (K : PySem.W.Frag) (f : Str) (x y : V) (H : Hp) (Q : Hp → Prop) : Prop := ∃ a C dx fs, x = .ref a ∧ H a = some (.ins C dx fs) ∧ Cls K C ∧ NoAttr K C f ∧ fs.length < 1000 ∧ Q (upd H a (.ins C dx (putF f y fs)))
theorem u_sfld {K : PySem.W.Frag} {ta tv : TE} {f : Str} {D : Ends} {σ : L2.St} {H : Hp} (h : tv σ H fun y H1 => ta σ H1 fun x H2 => SFq K f x y H2 (D.nx σ)) : sFld K ta tv f D σ H := h
theorem sf_of {K : PySem.W.Frag} {f : Str} {a C dx : Addr} {fs : List (Str × V)} {y : V} {H : Hp} {Q : Hp → Prop} (hc : Cls K C) (hn : NoAttr K C f) (h : H a = some (.ins C dx fs)) (hl : fs.length < 1000)
    (q : ∀ H', Kp [a] H H' → H' a = some (.ins C dx (putF f y fs)) → Q H') : SFq K f (.ref a) y H Q := ⟨a, C, dx, fs, rfl, h, hc, hn, hl, q _ Kp.mut upd_same⟩
/-! ## operators of own classes -/
section
variable {X : Cx} {CX : CXT} {k : Nat} {f C : Addr} {fd : FuncData} {ps : List Str} {sp : Sp} {E : XK}
theorem back_of {pins : List (Addr × Obj)} {σ : L2.St} {Q : VK} {r : Value} {s : Shared} (h : EP X pins σ Q r s) : PySem.W.CmpBack (EP X pins σ Q) r s := by
  obtain ⟨v, H, inv, rel, q⟩ := h
  cases v with
  | non => cases (show r = .none from rel); exact ⟨.non, H, inv, rel, q⟩
  | bl b => cases (show r = .bool b from rel); exact ⟨.bl b, H, inv, rel, q⟩
  | int i => obtain ⟨t, e⟩ := (show ∃ t, r = .int i t from rel); subst e; exact ⟨.int i, H, inv, rel, q⟩
  | str i => obtain ⟨t, e⟩ := (show ∃ t, r = .str i t from rel); subst e; exact ⟨.str i, H, inv, rel, q⟩
  | byt i => obtain ⟨t, e⟩ := (show ∃ t, r = .bytes i t from rel); subst e; exact ⟨.byt i, H, inv, rel, q⟩
  | flt i => obtain ⟨t, e⟩ := (show ∃ t, r = .float i t from rel); subst e; exact ⟨.flt i, H, inv, rel, q⟩
  | ref a => cases (show r = .ref a from rel); exact ⟨.ref a, H, inv, rel, q⟩
  | ty n => cases (show r = .type n from rel); exact ⟨.ty n, H, inv, rel, q⟩
/-- a op b, two instances of the class at C -/
def rOwn (C : Addr) (sp : Sp) (E : XK) : R2 := fun x y H Q => ∃ a b dx dy fs gs, x = .ref a ∧ y = .ref b ∧ H a = some (.ins C dx fs) ∧ H b = some (.ins C dy gs) ∧ sp [x, y] H Q E
theorem op_own {op : Operator} (ok : FnOk X.prog X.w X.K X.mg X.base CX k f fd ps sp) (first : PySem.W.selfFirst X.K C = true) (found : PySem.W.findIn X.K (.ref C) (PySem.dunder op.info.2) = some (some (.ref f))) (isf : PySem.W.isFn X.K (.ref f) = true)
    (bind : Binds X.K fd ps []) (pass : Passes CX X E) (room : Room k X.A) : OpR X (binaryOp op) (rOwn C sp E) := by
  intro pins s σ H x y v u Q inv rx ry asked
  obtain ⟨a, b, dx, dy, fs, gs, rfl, rfl, ha, hb, go⟩ := asked
  cases rx
  cases ry
  obtain ⟨_, J, _⟩ := ins_get inv.hok ha
  obtain ⟨_, J2, _⟩ := ins_get inv.hok hb
  obtain ⟨_, J, _⟩ := J.look
  obtain ⟨_, J2, _⟩ := J2.look
  obtain ⟨_, fr⟩ := inv.fr
  refine PySem.W.binop_K fr inv.ok.mod.kin J J2.type first found isf ?_
  exact wpAny_mono (run_fn (vs := [.ref a, .ref b]) (us := [.ref a, .ref b]) ok room bind .nil pass inv (.cons rfl (.cons rfl .nil)) go) (fun r s2 q => back_of q) fun _ _ z => z
/-- a == y, a an instance of the class at C, y of the type t -/
def rEqOwn (K : PySem.W.Frag) (C : Addr) (sp : Sp) (E : XK) : R2 := fun x y H Q => ∃ a dx fs t, x = .ref a ∧ H a = some (.ins C dx fs) ∧ TyX K H y t ∧ PySem.W.notFirst K C t = true ∧ sp [x, y] H Q E
theorem op_eqOwn (ok : FnOk X.prog X.w X.K X.mg X.base CX k f fd ps sp) (found : PySem.W.findIn X.K (.ref C) "__eq__" = some (some (.ref f))) (isf : PySem.W.isFn X.K (.ref f) = true)
    (bind : Binds X.K fd ps []) (pass : Passes CX X E) (room : Room k X.A) : OpR X (compareOp .Eq) (rEqOwn X.K C sp E) := by
  intro pins s σ H x y v u Q inv rx ry asked
  obtain ⟨a, dx, fs, t, rfl, ha, ty, nf, go⟩ := asked
  cases rx
  obtain ⟨_, J, _⟩ := ins_get inv.hok ha
  obtain ⟨_, J, _⟩ := J.look
  obtain ⟨_, fr⟩ := inv.fr
  obtain ⟨Z, kit, hz, _⟩ := kit_of inv ry ty
  show wpAny (model X.prog X.w) X.A (richCompare .Eq (.ref a) u) (EP X pins σ Q) X.xe s
  refine PySem.W.cmp_K (op := .Eq) (tb := t) room.units0 fr inv.ok.mod.kin J (kit.ty _ _ inv.kIn hz) nf found isf ?_
  exact wpAny_mono (run_fn (vs := [.ref a, y]) (us := [.ref a, u]) ok room bind .nil pass inv (.cons rfl (.cons ry .nil)) go) (fun r s2 q => back_of q) fun _ _ z => z
end
/-! ## what a caught error is -/
def rIsE2 (K : PySem.W.Frag) (cls : Value) (d : Option Addr) (a : Addr) : List V → Hp → VK → Prop := fun xs H Q => ∃ (D : Addr) (c : V) (cv : Value) (b : Bool), cls = .ref D ∧ d = none ∧ ExcC K D ∧ xs = [.ref a, c] ∧ ClsV c cv ∧ PySem.W.kitOne K (.ref D) cv = some b ∧ Q (.bl b) H
def rIsET (K : PySem.W.Frag) (cls : Value) (d : Option Addr) (a : Addr) : List V → Hp → VK → Prop := fun xs H Q => ∃ (D tp : Addr) (cs : List V) (us : List Value) (b : Bool), cls = .ref D ∧ d = none ∧ ExcC K D ∧ xs = [.ref a, .ref tp] ∧ H tp = some (.tup cs) ∧ Paired ClsV cs us ∧ PySem.W.kitAny K (.ref D) us = some b ∧ Q (.bl b) H
section
variable {X : Cx} {a : Addr} {oe : Obj} {cls : Value} {d : Option Addr} {pn : List (Addr × Obj)}
theorem c_isE (hz : Zc cls d oe) (hf : ∃ vs, oe.data = .fields vs) : CallR (X.suite a ((a, oe) :: pn)) (.builtin "isinstance") (rIsE2 X.K cls d a) := by
  intro pins s σ H xs us Q inv rel asked
  obtain ⟨D, c, cv, b, rfl, rfl, C, rfl, kc, e, q⟩ := asked
  exact call_isE C hz hf pins s σ H _ us Q inv rel ⟨c, cv, b, rfl, fun u r => kc.eq r, e, q⟩
theorem c_isET (hz : Zc cls d oe) (hf : ∃ vs, oe.data = .fields vs) : CallR (X.suite a ((a, oe) :: pn)) (.builtin "isinstance") (rIsET X.K cls d a) := by
  intro pins s σ H xs us Q inv rel asked
  obtain ⟨D, tp, cs, ws, b, rfl, rfl, C, rfl, hT, kc, e, q⟩ := asked
  obtain ⟨u1, u2, rfl, r1, r2⟩ := vals2 rel
  cases (show u1 = Value.ref a from r1)
  cases (show u2 = Value.ref tp from r2)
  obtain ⟨got, _⟩ := inv.pin (a, oe) (List.mem_append.mpr (.inl List.mem_cons_self))
  obtain ⟨_, its, rv, o, h1, h2, n, h3⟩ := (show ObjOk X.prog X.w H s.heap tp (.tup cs) from inv.hok tp _ hT)
  have same := ClsV.all kc rv
  subst same
  obtain ⟨oc, od, dt, sl⟩ := o
  dsimp only at h2 h3
  subst h2 h3
  obtain ⟨vs, hv⟩ := hf
  have J : PySem.W.InstAt s.heap a oe D none := by
    cases oe
    cases hz.1
    cases hz.2
    dsimp only at hv
    subst hv
    exact ⟨got, rfl, rfl, trivial⟩
  exact PySem.W.kia_tup (PySem.W.handS_kitx_exc C.hg C.hk C.hs C.hd C.ha C.hn C.ht C.hm) inv.kIn J h1 e (fun z => nomatch z) fun tk => ⟨.bl b, H, inv.kept (t' := tk) fun _ _ z => z, rfl, q⟩
end
/-! ## methods, classes -/
def Dm (K : PySem.W.Frag) (C : Addr) (m qual : Str) (st : Stmt) : Prop := ∃ f fd, PySem.W.findIn K (.ref C) m = some (some (.ref f)) ∧ PySem.W.isFn K (.ref f) = true ∧ Fun K m qual st f fd
theorem dm_of {K : PySem.W.Frag} {C f : Addr} {m qual : Str} {st : Stmt} {od an : Option Addr} {sl : Array (Option Value)} {oc kV dc pm cd ct : Value}
    (a : PySem.W.findIn K (.ref C) m = some (some (.ref f))) (i : PySem.W.isFn K (.ref f) = true) (l : K.lookup f = some ⟨oc, od, .func (PySem.W.fnOf m qual (defArgs st) (defBody st) (defScope st) .none kV dc pm an cd ct), sl⟩)
    (c : PySem.W.codeIn K cd qual = true) (k : PySem.W.keepIn K (.ref f) = true) : Dm K C m qual st := ⟨f, _, a, i, fun_mk l c k⟩
def Mc (P : Program) (w : World) (K : PySem.W.Frag) (mg : Str → Option Value) (base : Heap) (CX : CXT) (k : Nat) (C : Addr) (m : Str) (ps : List Str) (sp : Sp) : Prop :=
  ∃ f fd, FnOk P w K mg base CX k f fd ps sp ∧ PySem.W.findIn K (.ref C) m = some (some (.ref f)) ∧ PySem.W.isFn K (.ref f) = true ∧ PySem.W.keepIn K (.ref f) = true ∧ Binds K fd ps []
section
variable {P : Program} {w : World} {K : PySem.W.Frag} {mg : Str → Option Value} {base : Heap} {m qual : Str} {st : Stmt} {ps N : List Str} {k : Nat} {sp : Sp} {C : Addr}
theorem mc_of (F : Dm K C m qual st) (S : FnScope N ps (defScope st)) (len : ∀ vs H Q E, sp vs H Q E → vs.length = ps.length)
    (hb : ∀ (kV doc pm : Value) (an : Option Addr) (cdv ct : Value) (us : List Value), us.length = ps.length → bindArgs (PySem.W.fnOf m qual (defArgs st) (defBody st) (defScope st) .none kV doc pm an cdv ct) ⟨us, []⟩ = pure (ps.zip us))
    (hbody : ∀ (f : Addr) (cdv : Value) (A : Around) (outer : List Env) (s : Shared) (H : Hp) (vs : List V) (Q : VK) (E : XK), Room k (A.deeper (envOfC qual (defScope st) s.heap.objs.size f cdv)) → sp vs H Q E →
      ∃ t, PSs (cxOf CX0 P w K mg base N qual (defScope st) f cdv A outer s H E).nox (defBody st) t ∧ t { nx := fun _ H' => Q .non H', rt := Q } (start N vs) H) : Mc P w K mg base CX0 (k + 1) C m ps sp := by
  obtain ⟨f, fd, hm, hi, F⟩ := F
  exact ⟨f, fd, F.ok S len (hbody f), hm, hi, F.kp, F.binds hb⟩
theorem mc_ofX (F : Dm K C m qual st) (S : FnScope N ps (defScope st)) (len : ∀ vs H Q E, sp vs H Q E → vs.length = ps.length)
    (hb : ∀ (kV doc pm : Value) (an : Option Addr) (cdv ct : Value) (us : List Value), us.length = ps.length → bindArgs (PySem.W.fnOf m qual (defArgs st) (defBody st) (defScope st) .none kV doc pm an cdv ct) ⟨us, []⟩ = pure (ps.zip us))
    (hbody : ∀ (f : Addr) (cdv : Value) (A : Around) (outer : List Env) (s : Shared) (H : Hp) (vs : List V) (Q : VK) (E : XK), Room k (A.deeper (envOfC qual (defScope st) s.heap.objs.size f cdv)) → sp vs H Q E →
      ∃ t, PSs (cxOf (L2.CX P w) P w K mg base N qual (defScope st) f cdv A outer s H E) (defBody st) t ∧ t { nx := fun _ H' => Q .non H', rt := Q } (start N vs) H) : Mc P w K mg base (L2.CX P w) (k + 1) C m ps sp := by
  obtain ⟨f, fd, hm, hi, F⟩ := F
  exact ⟨f, fd, F.okX S len (hbody f), hm, hi, F.kp, F.binds hb⟩
end
section
variable {X : Cx} {CX : CXT} {k : Nat} {C : Addr} {m : Str} {ps : List Str} {sp : Sp} {E : XK}
theorem op_mc {op : Operator} (F : Mc X.prog X.w X.K X.mg X.base CX k C (PySem.dunder op.info.2) ps sp) (first : PySem.W.selfFirst X.K C = true) (pass : Passes CX X E) (room : Room k X.A) : OpR X (binaryOp op) (rOwn C sp E) := by
  obtain ⟨f, fd, ok, a, i, _, b⟩ := F
  exact op_own ok first a i b pass room
theorem op_mcEq (F : Mc X.prog X.w X.K X.mg X.base CX k C "__eq__" ps sp) (pass : Passes CX X E) (room : Room k X.A) : OpR X (compareOp .Eq) (rEqOwn X.K C sp E) := by
  obtain ⟨f, fd, ok, a, i, _, b⟩ := F
  exact op_eqOwn ok a i b pass room
end
/-- an own error class, as it stands -/
structure ErrC (K : PySem.W.Frag) (mg : Str → Option Value) (x : Str) (C : Addr) : Prop where
  g : mg x = some (.ref C)
  k : PySem.W.keepIn K (.ref C) = true
  b : PySem.W.subIn K (.ref C) (.type "BaseException") = some true
  t : PySem.W.typeIn K (.ref C) = some (.type "type")
  e : ExcC K C
theorem ErrC.exm {K : PySem.W.Frag} {mg : Str → Option Value} {x : Str} {C : Addr} {cls : Value} {b : Bool} (h : ErrC K mg x C) (s : PySem.W.subIn K cls (.ref C) = some b) : PySem.W.exmOne K cls (.ref C) = some b := PySem.W.exm_ref h.b h.e.hd h.t s
theorem kit_own {K : PySem.W.Frag} {C : Addr} {t : Value} {b : Bool} (hd : PySem.W.hasDictIn K C = true) (ty : PySem.W.typeIn K (.ref C) = some (.type "type")) (ne : (t == .ref C) = false) (s : PySem.W.subIn K t (.ref C) = some b) : PySem.W.kitOne K t (.ref C) = some b := by
  obtain ⟨cd, hc, _⟩ := PySem.W.any_some hd
  have e : ((PySem.W.clsIn K C).isSome && PySem.W.typeIn K (.ref C) == some (.type "type")) = true := by rw [hc, ty] <;> rfl
  unfold PySem.W.kitOne
  rw [if_neg (by rw [ne]; exact Bool.false_ne_true)]
  show (if ((PySem.W.clsIn K C).isSome && PySem.W.typeIn K (.ref C) == some (.type "type")) = true then PySem.W.subIn K t (.ref C) else none) = some b
  rw [if_pos e]
  exact s
theorem kit_self {K : PySem.W.Frag} {C : Addr} : PySem.W.kitOne K (.ref C) (.ref C) = some true := by
  unfold PySem.W.kitOne
  rw [if_pos (by simp)]
theorem notFirst_of {K : PySem.W.Frag} {C : Addr} {t : Value} (s : PySem.W.subIn K t (.ref C) = some false) : PySem.W.notFirst K C t = true := by
  unfold PySem.W.notFirst
  rw [s]
  simp
theorem notFirst_self {K : PySem.W.Frag} {C : Addr} : PySem.W.notFirst K C (.ref C) = true := by
  unfold PySem.W.notFirst
  simp
/-! ## sizes of numbers -/
def Bt (n : Nat) (x : Int) : Prop := x.natAbs < 2 ^ n
theorem Bt.mono {n m : Nat} {x : Int} (h : Bt n x) (l : n ≤ m) : Bt m x := Nat.lt_of_lt_of_le h (Nat.pow_le_pow_right (by decide) l)
theorem Bt.mul {n m : Nat} {x y : Int} (h : Bt n x) (h' : Bt m y) : Bt (n + m) (x * y) := by
  unfold Bt at *
  rw [Int.natAbs_mul, Nat.pow_add]
  exact Nat.mul_lt_mul'' h h'
theorem Bt.add {n : Nat} {x y : Int} (h : Bt n x) (h' : Bt n y) : Bt (n + 1) (x + y) := by
  unfold Bt at *
  rw [Nat.pow_succ]
  omega
theorem Bt.sub {n : Nat} {x y : Int} (h : Bt n x) (h' : Bt n y) : Bt (n + 1) (x - y) := by
  unfold Bt at *
  rw [Nat.pow_succ]
  omega
theorem Bt.neg {n : Nat} {x : Int} (h : Bt n x) : Bt n (-x) := by
  unfold Bt at *
  omega
theorem Bt.le {n : Nat} {x y : Int} (h : Bt n y) (l : x.natAbs ≤ y.natAbs) : Bt n x := Nat.lt_of_le_of_lt l h
theorem Bt.cmul {n m : Nat} {x y : Int} (h : Bt n x) (h' : Bt m y) (l : n + m ≤ 134217728 := by decide) : CMulX x y := mulx_ok h h' l
theorem Bt.cdiv {n : Nat} {x y : Int} (p : 0 < y) (h : Bt n y) (l : 0 < n ∧ n ≤ 9000 := by decide) : CDivW x y := wide_div p h l.1 l.2
theorem Bt.addM {n m : Nat} {x y : Int} (h : Bt n x) (h' : Bt m y) : Bt (n + m + 1) (x + y) := Bt.add (h.mono (Nat.le_add_right n m)) (h'.mono (Nat.le_add_left m n))
theorem Bt.subM {n m : Nat} {x y : Int} (h : Bt n x) (h' : Bt m y) : Bt (n + m + 1) (x - y) := Bt.sub (h.mono (Nat.le_add_right n m)) (h'.mono (Nat.le_add_left m n))
theorem two200 : (2 : Nat) ^ 200 = 1606938044258990275541962092341162602522202993782792835301376 := by decide +kernel
theorem bt200 {x : Int} (h : -1606938044258990275541962092341162602522202993782792835301376 < x ∧ x < 1606938044258990275541962092341162602522202993782792835301376) : Bt 200 x := by
  unfold Bt
  rw [two200]
  omega
theorem bt200' {x : Int} (h : Bt 200 x) : -1606938044258990275541962092341162602522202993782792835301376 < x ∧ x < 1606938044258990275541962092341162602522202993782792835301376 := by
  unfold Bt at h
  rw [two200] at h
  omega
theorem atI_mem {xs : List V} {i : Int} (h0 : 0 ≤ i) (h1 : i < (xs.length : Int)) : ∃ v, atI xs i = some v ∧ v ∈ xs := by
  obtain ⟨n, rfl⟩ : ∃ n : Nat, i = (n : Int) := ⟨i.toNat, by omega⟩
  have hn : n < xs.length := by omega
  exact ⟨xs[n], atI_nat (List.getElem?_eq_getElem hn), List.getElem_mem hn⟩
theorem mem_at {xs : List V} {i : Nat} {v : V} (h : xs[i]? = some v) : v ∈ xs := List.mem_of_getElem? h
section
variable {H : Hp} {Q : VK} {i j : Int}
theorem u_maxL (k : ∀ m, (m = i ∨ m = j) → i ≤ m → j ≤ m → Q (.int m) H) : rMax2 [.int i, .int j] H Q := ⟨i, j, rfl, by
  by_cases h : j > i
  · rw [if_pos h]; exact k j (.inr rfl) (by omega) (by omega)
  · rw [if_neg h]; exact k i (.inl rfl) (by omega) (by omega)⟩
theorem u_minL (k : ∀ m, (m = i ∨ m = j) → m ≤ i → m ≤ j → Q (.int m) H) : rMin2 [.int i, .int j] H Q := ⟨i, j, rfl, by
  by_cases h : j < i
  · rw [if_pos h]; exact k j (.inr rfl) (by omega) (by omega)
  · rw [if_neg h]; exact k i (.inl rfl) (by omega) (by omega)⟩
theorem u_absL (k : ∀ m, 0 ≤ m → (m = i ∨ m = -i) → Q (.int m) H) : rAbs [.int i] H Q := ⟨i, rfl, by
  by_cases h : i < 0
  · rw [if_pos h]; exact k _ (by omega) (.inr rfl)
  · rw [if_neg h]; exact k _ (by omega) (.inl rfl)⟩
end
theorem bt256 {x : Int} (h : -10000000000000000000000000000000000000000000000000000000000000000000000 ≤ x ∧ x ≤ 10000000000000000000000000000000000000000000000000000000000000000000000) : Bt 256 x := by
  unfold Bt
  have e : (2 : Nat) ^ 256 = 115792089237316195423570985008687907853269984665640564039457584007913129639936 := by decide +kernel
  rw [e]
  omega
theorem cmulx_of {i j : Int} (h : (-10000000000000000000000000000000000000000000000000000000000000000000000 ≤ i ∧ i ≤ 10000000000000000000000000000000000000000000000000000000000000000000000) ∧ (-10000000000000000000000000000000000000000000000000000000000000000000000 ≤ j ∧ j ≤ 10000000000000000000000000000000000000000000000000000000000000000000000)) : CMulX i j := (bt256 h.1).cmul (bt256 h.2)
theorem two100 : (2 : Nat) ^ 100 = 1267650600228229401496703205376 := by decide +kernel
theorem bt100 {x : Int} (h : -1267650600228229401496703205376 < x ∧ x < 1267650600228229401496703205376) : Bt 100 x := by
  unfold Bt
  rw [two100]
  omega
theorem two170 : (2 : Nat) ^ 170 = 1496577676626844588240573268701473812127674924007424 := by decide +kernel
theorem bt170 {x : Int} (h : -1496577676626844588240573268701473812127674924007424 < x ∧ x < 1496577676626844588240573268701473812127674924007424) : Bt 170 x := by
  unfold Bt
  rw [two170]
  omega
theorem bt30 {x : Int} (h : -1073741824 < x ∧ x < 1073741824) : Bt 30 x := by
  unfold Bt
  have e : (2 : Nat) ^ 30 = 1073741824 := by decide +kernel
  rw [e]
  omega
/-! ## caught errors, asked for their classes -/
section
variable {K : PySem.W.Frag} {mg : Str → Option Value} {D a : Addr} {H : Hp} {Q : VK}
theorem kit_none {Cs : List Addr} (h : ∀ C ∈ Cs, PySem.W.kitOne K (.ref D) (.ref C) = some false) : PySem.W.kitAny K (.ref D) (Cs.map Value.ref) = some false := by
  induction Cs with
  | nil => rfl
  | cons C r ih => exact kitAny_cons (h C List.mem_cons_self) (fun _ => ih fun x hx => h x (List.mem_cons_of_mem _ hx)) (fun z => by cases z)
theorem cls_all : ∀ Cs : List Addr, Paired ClsV (Cs.map V.ref) (Cs.map Value.ref)
  | [] => .nil
  | C :: r => .cons (.own C) (cls_all r)
theorem kit_bty {T : String} {b : Bool} (m : PySem.W.kitMeta T = true) (s : PySem.W.subIn K (.ref D) (.type T) = some b) : PySem.W.kitOne K (.ref D) (.type T) = some b := by
  unfold PySem.W.kitOne
  rw [if_neg (by simp)]
  show (if PySem.W.kitMeta T = true then PySem.W.subIn K (.ref D) (.type T) else none) = some b
  rw [if_pos m]
  exact s
theorem meta_VE : PySem.W.kitMeta "ValueError" = true := by decide +kernel
theorem isE_self (e : ExcC K D) (q : Q (.bl true) H) : rIsE2 K (.ref D) none a [.ref a, .ref D] H Q := ⟨D, .ref D, .ref D, true, rfl, rfl, e, rfl, .own D, kit_self, q⟩
theorem isE_VE (e : ExcC K D) (s : PySem.W.subIn K (.ref D) (.type "ValueError") = some true) (q : Q (.bl true) H) : rIsE2 K (.ref D) none a [.ref a, .ty "ValueError"] H Q := ⟨D, .ty "ValueError", .type "ValueError", true, rfl, rfl, e, rfl, .ty "ValueError", kit_bty meta_VE s, q⟩
theorem isE_own {C : Addr} {b : Bool} (e : ExcC K D) (k : PySem.W.kitOne K (.ref D) (.ref C) = some b) (q : Q (.bl b) H) : rIsE2 K (.ref D) none a [.ref a, .ref C] H Q := ⟨D, .ref C, .ref C, b, rfl, rfl, e, rfl, .own C, k, q⟩
theorem isET_none (Cs : List Addr) {tp : Addr} (e : ExcC K D) (ht : H tp = some (.tup (Cs.map V.ref))) (h : ∀ C ∈ Cs, PySem.W.kitOne K (.ref D) (.ref C) = some false) (q : Q (.bl false) H) : rIsET K (.ref D) none a [.ref a, .ref tp] H Q :=
  ⟨D, tp, _, _, false, rfl, rfl, e, rfl, ht, cls_all Cs, kit_none h, q⟩
theorem ErrC.no {x : Str} {C : Addr} (h : ErrC K mg x C) (s : PySem.W.subIn K (.ref D) (.ref C) = some false ∧ D ≠ C) : PySem.W.kitOne K (.ref D) (.ref C) = some false :=
  kit_own h.e.hd h.t (by simpa using s.2) s.1
end
/-! ## the written part by its letter -/
section
variable {X : Cx} (K : PySem.W.Frag)
theorem ixlK (h : X.K = K := by rfl) : IxR X (rIxL K) := by subst h; exact ix_list
theorem ixtK (h : X.K = K := by rfl) : IxR X (rIxT K) := by subst h; exact ix_tup
theorem sllK (h : X.K = K := by rfl) : SlR X (rSlL K) := by subst h; exact sl_list
theorem sltK (h : X.K = K := by rfl) : SlR X (rSlT K) := by subst h; exact sl_tup
theorem lenK (h : X.K = K := by rfl) : CallR X (.builtin "len") (rLenA K) := by subst h; exact call_len_seq
theorem isiK (h : X.K = K := by rfl) : CallR X (.builtin "isinstance") (rIsi K) := by subst h; exact call_isi
theorem eqDK (hu : X.A.units + 64 < cLine) (h : X.K = K := by rfl) : OpR X (compareOp .Eq) (rEqD K) := by subst h; exact op_eqD hu
theorem neDK (hu : X.A.units + 64 < cLine) (h : X.K = K := by rfl) : OpR X (compareOp .NotEq) (rNeD K) := by subst h; exact op_neD hu
theorem catTK (h : X.K = K := by rfl) : OpR X (binaryOp .Add) (rCatT K) := by subst h; exact op_catT
theorem inK (h : X.K = K := by rfl) : OpR X (compareOp .In) (rIn K false) := by subst h; exact op_in_seq
theorem notInK (h : X.K = K := by rfl) : OpR X (compareOp .NotIn) (rIn K true) := by subst h; exact op_notIn_seq
theorem fldK {e : Expr} {f : Str} {ta : TE} {pos : Pos} (he : PE X e ta) (hb : attributeBase e f X.env (eval e X.env) = eval e X.env) (h : X.K = K := by rfl) : PE X (.Attribute e f pos) (tFld K ta f) := by subst h; exact pe_fld he hb
theorem piLK {tg l : Expr} {tl : TE} (hl : PE X l tl) (h : X.K = K := by rfl) : PI X tg l (iList K tl) := by subst h; exact pi_list hl
theorem piTK {tg l : Expr} {tl : TE} (hl : PE X l tl) (h : X.K = K := by rfl) : PI X tg l (iTup K tl) := by subst h; exact pi_tup hl
theorem pgTK (n : Nat) {es : List Expr} {k : Nat} {t : TGs} {pos : Pos} (hc : X.calm = true) (q : PGs X es t) (hn : (assignEach es X.env).length = n := by rfl) (hst : (assignEach es X.env).findIdx? (·.1) = none := by rfl) (h : X.K = K := by rfl) :
    PG X (.Tuple es k pos) (gTup K n t) := by subst h; exact pg_tup hc q hn hst
def rListOf : List V → Hp → VK → Prop := fun xs H Q => ∃ p ys, xs = [.ref p] ∧ (SqL K H p ys ∨ SqT K H p ys) ∧ ∀ l, H l = none → Q (.ref l) (upd H l (.lst ys))
theorem listK (h : X.K = K := by rfl) : CallR X (.type "list") (rListOf K) := by subst h; exact call_list_of
def rTupOf : List V → Hp → VK → Prop := fun xs H Q => ∃ p ys, xs = [.ref p] ∧ ((SqL K H p ys ∧ ∀ l, H l = none → Q (.ref l) (upd H l (.tup ys))) ∨ (SqT K H p ys ∧ Q (.ref p) H))
theorem tupK (h : X.K = K := by rfl) : CallR X (.type "tuple") (rTupOf K) := by subst h; exact call_tuple_of
end
section
variable {K : PySem.W.Frag} {H : Hp} {Q : VK} {p : Addr} {ys : List V}
theorem listOf_l (h : SqL K H p ys) (k : ∀ l H', H l = none → Kp [] H H' → H' l = some (.lst ys) → Q (.ref l) H') : rListOf K [.ref p] H Q := ⟨p, ys, rfl, .inl h, fun l hl => k l _ hl (Kp.new hl) upd_same⟩
theorem listOf_t (h : SqT K H p ys) (k : ∀ l H', H l = none → Kp [] H H' → H' l = some (.lst ys) → Q (.ref l) H') : rListOf K [.ref p] H Q := ⟨p, ys, rfl, .inr h, fun l hl => k l _ hl (Kp.new hl) upd_same⟩
theorem tupOf_l (h : SqL K H p ys) (k : ∀ l H', H l = none → Kp [] H H' → H' l = some (.tup ys) → Q (.ref l) H') : rTupOf K [.ref p] H Q := ⟨p, ys, rfl, .inl ⟨h, fun l hl => k l _ hl (Kp.new hl) upd_same⟩⟩
theorem tupOf_t (h : SqT K H p ys) (k : Q (.ref p) H) : rTupOf K [.ref p] H Q := ⟨p, ys, rfl, .inr ⟨h, k⟩⟩
/-- xs.append(y) -/
def BmQ (K : PySem.W.Frag) (T : String) (x : V) (H : Hp) (R : Prop) : Prop := tyV K T x H ∧ R
theorem u_bm {T : String} {r : V → List V → Hp → VK → Prop} {to : TE} {t : TA} {σ : L2.St} (h : to σ H fun x H1 => BmQ K T x H1 (t σ H1 fun xs H2 => r x xs H2 Q)) : tBM K T r to t σ H Q := h
theorem bm_list {R : Prop} {a : Addr} {xs : List V} (h : H a = some (.lst xs)) (q : R) : BmQ K "list" (.ref a) H R := ⟨.inl ⟨rfl, _, sql h⟩, q⟩
theorem u_append {l : Addr} {xs : List V} {y : V} (h : H l = some (.lst xs)) (hl : xs.length < 100000) (k : ∀ H', Kp [l] H H' → H' l = some (.lst (xs ++ [y])) → Q .non H') : rAppend (.ref l) [y] H Q :=
  ⟨l, xs, y, rfl, rfl, h, Nat.lt_of_lt_of_le hl (by decide), k _ Kp.mut upd_same⟩
end
/-! ## comprehensions -/
def EndQ (a b : L2.St) (R : Prop) : Prop := a = b ∧ R
theorem endQ {a b : L2.St} {R : Prop} (e : a = b) (h : R) : EndQ a b R := ⟨e, h⟩
def AppQ (D : Addr) (acc : List V) (y : V) (H : Hp) (P : Hp → Prop) : Prop := H D = some (.lst acc) ∧ acc.length < sizeLine ∧ ∀ H', Kp [D] H H' → H' D = some (.lst (acc ++ [y])) → P H'
theorem appQ {D : Addr} {acc : List V} {y : V} {H : Hp} {P : Hp → Prop} (h : H D = some (.lst acc)) (hl : acc.length < 100000) (k : ∀ H', Kp [D] H H' → H' D = some (.lst (acc ++ [y])) → P H') : AppQ D acc y H P := ⟨h, Nat.lt_of_lt_of_le hl (by decide), k⟩
def LcQ (J : It) (g : TG) (tt : TT) (te : TE) (vs : List Nat) (σ : L2.St) (Q : VK) (H1 : Hp) : Prop := ∀ D, H1 D = none → ∃ W : Nat → Nat → Hp → Prop, (∃ m, W 0 m (upd H1 D (.lst []))) ∧ ∀ i m H, W i m H →
  (J.stop i H ∧ Q (.ref D) H) ∨ (J.go i H ∧ ∃ Nx : Hp → Prop, (∀ H', Nx H' → ∃ m', m' < m ∧ W (i + 1) m' H') ∧ ∀ x H', J.yld i H x H' → g x (wipe σ vs) H' fun σ2 H2 => wipe σ2 vs = wipe σ vs ∧ tt σ2 H2 fun b H3 =>
    if b = true then te σ2 H3 fun y H4 => ∃ acc, H4 D = some (.lst acc) ∧ acc.length < sizeLine ∧ Nx (upd H4 D (.lst (acc ++ [y]))) else Nx H3)
section
variable {K : PySem.W.Frag} {g : TG} {tt : TT} {te : TE} {vs : List Nat} {σ : L2.St} {H : Hp} {Q : VK}
theorem u_lc {wi : TI} (h : wi σ H fun J H1 => LcQ J g tt te vs σ Q H1) : tLc wi g tt te vs σ H Q := h
theorem u_yes {Q : Bool → Hp → Prop} (q : Q true H) : tYes σ H Q := q
def AppE (D : Addr) (y : V) (H : Hp) (Nx : Hp → Prop) : Prop := ∃ acc, H D = some (.lst acc) ∧ acc.length < sizeLine ∧ Nx (upd H D (.lst (acc ++ [y])))
theorem appE {D : Addr} {acc : List V} {y : V} {Nx : Hp → Prop} (h : H D = some (.lst acc)) (hl : acc.length < 100000) (k : ∀ H', Kp [D] H H' → H' D = some (.lst (acc ++ [y])) → Nx H') : AppE D y H Nx :=
  ⟨acc, h, Nat.lt_of_lt_of_le hl (by decide), k _ Kp.mut upd_same⟩
theorem l_lcL {a : Addr} (xs : List V) (Pv : Addr → Nat → Hp → Prop) (h0 : ∀ D H', H D = none → Kp [] H H' → H' D = some (.lst []) → Pv D 0 H') (hl : ∀ D i H', i ≤ xs.length → Pv D i H' → SqL K H' a xs)
    (hs : ∀ D i x H', H D = none → xs[i]? = some x → Pv D i H' → g x (wipe σ vs) H' fun σ2 H2 => EndQ (wipe σ2 vs) (wipe σ vs) (tt σ2 H2 fun b H3 => Br b (fun H4 => te σ2 H4 fun y H5 => AppE D y H5 (Pv D (i + 1))) (Pv D (i + 1)) H3))
    (hd : ∀ D H', H D = none → Pv D xs.length H' → Q (.ref D) H') : LcQ (Itl K a) g tt te vs σ Q H := fun D hD =>
  lc_list (xs := xs) (Pv D) (h0 D _ hD (Kp.new hD) upd_same) (hl D) (fun i x H' hx p => hs D i x H' hD hx p) (fun H' p => hd D H' hD p)
theorem l_lcT {a : Addr} (xs : List V) (Pv : Addr → Nat → Hp → Prop) (h0 : ∀ D H', H D = none → Kp [] H H' → H' D = some (.lst []) → Pv D 0 H') (hl : ∀ D i H', i ≤ xs.length → Pv D i H' → SqT K H' a xs)
    (hs : ∀ D i x H', H D = none → xs[i]? = some x → Pv D i H' → g x (wipe σ vs) H' fun σ2 H2 => EndQ (wipe σ2 vs) (wipe σ vs) (tt σ2 H2 fun b H3 => Br b (fun H4 => te σ2 H4 fun y H5 => AppE D y H5 (Pv D (i + 1))) (Pv D (i + 1)) H3))
    (hd : ∀ D H', H D = none → Pv D xs.length H' → Q (.ref D) H') : LcQ (Itt K a) g tt te vs σ Q H := fun D hD =>
  lc_tup (xs := xs) (Pv D) (h0 D _ hD (Kp.new hD) upd_same) (hl D) (fun i x H' hx p => hs D i x H' hD hx p) (fun H' p => hd D H' hD p)
theorem l_lcR {lo : Int} {n : Nat} (Pv : Addr → Nat → Hp → Prop) (h0 : ∀ D H', H D = none → Kp [] H H' → H' D = some (.lst []) → Pv D 0 H')
    (hs : ∀ D i H', H D = none → i < n → Pv D i H' → g (.int (lo + i)) (wipe σ vs) H' fun σ2 H2 => EndQ (wipe σ2 vs) (wipe σ vs) (tt σ2 H2 fun b H3 => Br b (fun H4 => te σ2 H4 fun y H5 => AppE D y H5 (Pv D (i + 1))) (Pv D (i + 1)) H3))
    (hd : ∀ D H', H D = none → Pv D n H' → Q (.ref D) H') : LcQ (Itr lo n) g tt te vs σ Q H := fun D hD =>
  lc_range (Pv D) (h0 D _ hD (Kp.new hD) upd_same) (fun i H' hx p => hs D i H' hD hx p) (fun H' p => hd D H' hD p)
end
/-! ## methods called, defs called in a try -/
def MethQ (C : Addr) (m : Str) (x : V) (H : Hp) (R : Prop) : Prop := ∃ a dx fs, x = .ref a ∧ H a = some (.ins C dx fs) ∧ fs.lookup m = none ∧ R
theorem u_meth {C : Addr} {m : Str} {sp : Sp} {E : XK} {ta : TE} {t : TA} {σ : L2.St} {H : Hp} {Q : VK} (h : ta σ H fun x H1 => MethQ C m x H1 (t σ H1 fun vs H2 => sp (x :: (vs ++ [])) H2 Q E)) : tMeth C m sp [] E ta t σ H Q := h
theorem u_callS {sp : Sp} {E : L2.St → XK} {t : TA} {σ : L2.St} {H : Hp} {Q : VK} (h : t σ H fun vs H1 => sp (vs ++ []) H1 Q (E σ)) : tCallS sp E t σ H Q := by
  have e : (fun (vs : List V) (H1 : Hp) => sp (vs ++ []) H1 Q (E σ)) = fun vs H1 => sp vs H1 Q (E σ) := by funext vs H1; rw [List.append_nil]
  rw [e] at h
  exact h
section
variable {X : Cx} {CX : CXT} {k : Nat} {C : Addr} {x m : Str} {ps : List Str} {sp : Sp} {E : XK} {p pos apos : Pos} {e o : Expr} {es : List Expr} {ta : TE} {t : TA}
theorem pe_mc {pl : Sem Bool} (F : Mc X.prog X.w X.K X.mg X.base CX k C m ps sp) (c : Cls X.K C) (hx : Passes CX X E) (hr : Room k X.A) (he : PE X o ta) (ha : PA X (e :: es) t)
    (hst : starEach (e :: es) X.env = (false, eval e X.env) :: starEach es X.env := by rfl) (hpl : (backTo pos (starEach es X.env)).any (·.1) = false := by rfl)
    (ht : eval (.Call (.Attribute o m apos) (e :: es) [] pos) X.env = (eval o X.env >>= fun ov => standAt apos.atName >>= fun _ => holding [ov] (getMethod ov m pl) >>= fun y => callWith pos y.1 y.2 (backTo pos (starEach (e :: es) X.env)) (backToKw pos (keywordEach [] X.env))) := by rfl) :
    PE X (.Call (.Attribute o m apos) (e :: es) [] pos) (tMeth C m sp [] E ta t) := by
  obtain ⟨f, fd, ok, a, i, kp, b⟩ := F
  exact pe_meth (pl := pl) he c ⟨a, i, kp⟩ ok hr b .nil hx ha hst hpl ht
theorem pe_fcS {E : L2.St → XK} (F : Fc X.prog X.w X.K X.mg X.base CX k x ps sp) (hx : ∀ σ, PassesAt CX X σ (E σ)) (hr : Room k X.A) (ha : PA X (e :: es) t) (hg : Gl X x := by rfl) (hdb : (x == ("__debug__" : Str)) = false := by decide)
    (he : starEach (e :: es) X.env = (false, eval e X.env) :: starEach es X.env := by rfl) (hpl : (backTo pos (starEach es X.env)).any (·.1) = false := by rfl) : PE X (.Call (.Name x p) (e :: es) [] pos) (tCallS sp E t) := by
  obtain ⟨f, fd, F, hm, hk, hb⟩ := F
  exact pe_callS F hr hg hm hk hb hx ha hdb he hpl
end
end U
set_option linter.all false
set_option autoImplicit false
namespace Fr
/-- t / b is u / d in lowest terms -/
def Fr (t b u d : Int) : Prop := 1 ≤ b ∧ Nat.gcd t.natAbs b.natAbs = 1 ∧ t * d = u * b
theorem Fr.val {t b U D U' D' : Int} (h : Fr t b U D) (hD : 1 ≤ D) (e : U * D' = U' * D) : Fr t b U' D' := by
  obtain ⟨h1, h2, h3⟩ := h
  refine ⟨h1, h2, ?_⟩
  have hne : D ≠ 0 := by omega
  refine Int.eq_of_mul_eq_mul_right hne ?_
  grind
theorem Fr.dvd {t b u d : Int} (h : Fr t b u d) : b.natAbs ∣ d.natAbs := by
  obtain ⟨h1, h2, h3⟩ := h
  have e : t.natAbs * d.natAbs = u.natAbs * b.natAbs := by rw [← Int.natAbs_mul, ← Int.natAbs_mul, h3]
  have hd : b.natAbs ∣ t.natAbs * d.natAbs := by rw [e]; exact Nat.dvd_mul_left _ _
  exact Nat.Coprime.dvd_of_dvd_mul_left (Nat.Coprime.symm h2) hd
theorem Fr.le {t b u d : Int} (h : Fr t b u d) (hd : 1 ≤ d) : b ≤ d := by
  have q := Nat.le_of_dvd (by omega) h.dvd
  omega
theorem Fr.absle {t b u d : Int} (h : Fr t b u d) (hd : 1 ≤ d) : t.natAbs ≤ u.natAbs := by
  have hb := h.le hd
  obtain ⟨h1, h2, h3⟩ := h
  have e : t.natAbs * d.natAbs = u.natAbs * b.natAbs := by rw [← Int.natAbs_mul, ← Int.natAbs_mul, h3]
  have l : b.natAbs ≤ d.natAbs := by omega
  have l2 : t.natAbs * d.natAbs ≤ u.natAbs * d.natAbs := by rw [e]; exact Nat.mul_le_mul_left _ l
  exact Nat.le_of_mul_le_mul_right l2 (by omega)
theorem Fr.init {u d : Int} (hd : 1 ≤ d) : Fr (u / ((Nat.gcd u.natAbs d.natAbs : Nat) : Int)) (d / ((Nat.gcd u.natAbs d.natAbs : Nat) : Int)) u d := by
  obtain ⟨g, hg⟩ : ∃ g, g = Nat.gcd u.natAbs d.natAbs := ⟨_, rfl⟩
  have gp : 0 < g := by rw [hg]; exact Nat.gcd_pos_of_pos_right _ (by omega)
  have du : ((g : Nat) : Int) ∣ u := by rw [hg]; exact Int.ofNat_dvd_left.mpr (Nat.gcd_dvd_left _ _)
  have dd : ((g : Nat) : Int) ∣ d := by rw [hg]; exact Int.ofNat_dvd_left.mpr (Nat.gcd_dvd_right _ _)
  rw [← hg]
  obtain ⟨a, ha⟩ := du
  obtain ⟨b, hb⟩ := dd
  have gne : ((g : Nat) : Int) ≠ 0 := by omega
  have ea : u / (g : Int) = a := by rw [ha]; exact Int.mul_ediv_cancel_left _ gne
  have eb : d / (g : Int) = b := by rw [hb]; exact Int.mul_ediv_cancel_left _ gne
  rw [ea, eb]
  have bp : 1 ≤ b := by
    rcases Int.lt_or_le b 1 with hlt | hle
    · have : (g : Int) * b ≤ 0 := Int.mul_nonpos_of_nonneg_of_nonpos (by omega) (by omega)
      omega
    · exact hle
  refine ⟨bp, ?_, ?_⟩
  · have e1 : u.natAbs = g * a.natAbs := by rw [ha, Int.natAbs_mul]; simp
    have e2 : d.natAbs = g * b.natAbs := by rw [hb, Int.natAbs_mul]; simp
    rw [e1, e2, Nat.gcd_mul_left] at hg
    have q : g * 1 = g * Nat.gcd a.natAbs b.natAbs := by rw [Nat.mul_one]; exact hg
    exact (Nat.eq_of_mul_eq_mul_left gp q).symm
  · rw [ha, hb]
    grind
theorem Fr.gpos {u d : Int} (hd : 1 ≤ d) : (0 : Int) < ((Nat.gcd u.natAbs d.natAbs : Nat) : Int) := by
  have := Nat.gcd_pos_of_pos_right u.natAbs (n := d.natAbs) (by omega)
  omega
theorem Fr.gle {u d : Int} (hd : 1 ≤ d) : ((Nat.gcd u.natAbs d.natAbs : Nat) : Int) ≤ d := by
  have := Nat.gcd_le_right u.natAbs (n := d.natAbs) (by omega)
  omega
theorem Fr.one {u : Int} {t b d : Int} (h : Fr t b u d) : Fr t b t b := ⟨h.1, h.2.1, rfl⟩
theorem Fr.eq_iff {t b u d t' b' u' d' : Int} (h : Fr t b u d) (h' : Fr t' b' u' d') (hd : 1 ≤ d) (hd' : 1 ≤ d') : (t = t' ∧ b = b') ↔ u * d' = u' * d := by
  constructor
  · rintro ⟨rfl, rfl⟩
    obtain ⟨h1, _, h3⟩ := h
    obtain ⟨_, _, h3'⟩ := h'
    refine Int.eq_of_mul_eq_mul_right (a := b) (by omega) ?_
    grind
  · intro e
    have g : Fr t b u' d' := h.val hd e
    have dv := g.dvd
    have e2 : t * b' = t' * b := by
      obtain ⟨h1, _, h3⟩ := g
      obtain ⟨_, _, h3'⟩ := h'
      refine Int.eq_of_mul_eq_mul_right (a := d') (by omega) ?_
      grind
    have f : Fr t b t' b' := ⟨h.1, h.2.1, e2⟩
    have f' : Fr t' b' t b := ⟨h'.1, h'.2.1, e2.symm⟩
    have l1 := f.le h'.1
    have l2 := f'.le h.1
    have eb : b = b' := by omega
    refine ⟨?_, eb⟩
    rw [eb] at e2
    have := h'.1
    exact Int.eq_of_mul_eq_mul_right (by omega) e2
theorem Fr.add {t b u d t' b' u' d' x y : Int} (h : Fr t b u d) (h' : Fr t' b' u' d') (s : Fr x y (t * b' + t' * b) (b * b')) : Fr x y (u * d' + u' * d) (d * d') := by
  refine s.val (Int.mul_pos h.1 h'.1) ?_
  obtain ⟨_, _, h3⟩ := h
  obtain ⟨_, _, h3'⟩ := h'
  grind
theorem Fr.sub {t b u d t' b' u' d' x y : Int} (h : Fr t b u d) (h' : Fr t' b' u' d') (s : Fr x y (t * b' - t' * b) (b * b')) : Fr x y (u * d' - u' * d) (d * d') := by
  refine s.val (Int.mul_pos h.1 h'.1) ?_
  obtain ⟨_, _, h3⟩ := h
  obtain ⟨_, _, h3'⟩ := h'
  grind
end Fr
set_option linter.all false
set_option autoImplicit false
namespace Fr
theorem Fr.mul {t b u d t' b' u' d' x y : Int} (h : Fr t b u d) (h' : Fr t' b' u' d') (s : Fr x y (t * t') (b * b')) : Fr x y (u * u') (d * d') := by
  refine s.val (Int.mul_pos h.1 h'.1) ?_
  obtain ⟨_, _, h3⟩ := h
  obtain ⟨_, _, h3'⟩ := h'
  grind
theorem mul_le_iff {a b c : Int} (hc : 0 < c) : a * c ≤ b * c ↔ a ≤ b := ⟨fun h => Int.le_of_mul_le_mul_right h hc, fun h => Int.mul_le_mul_of_nonneg_right h (Int.le_of_lt hc)⟩
theorem Fr.le_iff {t b u d t' b' u' d' : Int} (h : Fr t b u d) (h' : Fr t' b' u' d') (hd : 1 ≤ d) (hd' : 1 ≤ d') : t * b' ≤ t' * b ↔ u * d' ≤ u' * d := by
  have p : 0 < b * b' := Int.mul_pos h.1 h'.1
  have q : 0 < d * d' := Int.mul_pos hd hd'
  have e1 : (t * b') * (d * d') = (u * d') * (b * b') := by
    obtain ⟨_, _, h3⟩ := h
    grind
  have e2 : (t' * b) * (d * d') = (u' * d) * (b * b') := by
    obtain ⟨_, _, h3⟩ := h'
    grind
  rw [← mul_le_iff q, e1, e2, mul_le_iff p]
theorem Fr.pow {t b u d : Int} (h : Fr t b u d) (n : Nat) : Fr (t ^ n) (b ^ n) (t ^ n) (b ^ n) := by
  refine ⟨?_, ?_, rfl⟩
  · have : 0 < b ^ n := Int.pow_pos h.1
    omega
  · rw [Int.natAbs_pow, Int.natAbs_pow]
    exact Nat.Coprime.pow n n h.2.1
/-- the step of a power -/
theorem Fr.pow_step {t b u d x y : Int} (h : Fr t b u d) (n : Nat) (s : Fr x y (t ^ n * t) (b ^ n * b)) : x = t ^ (n + 1) ∧ y = b ^ (n + 1) := by
  have q := h.pow (n + 1)
  rw [← Int.pow_succ, ← Int.pow_succ] at s
  exact (Fr.eq_iff s q q.1 q.1).mpr rfl
theorem Fr.self_eq {x y : Int} {t b u d : Int} (h : Fr t b u d) (s : Fr x y t b) : x = t ∧ y = b := (Fr.eq_iff s h.one h.1 h.1).mpr rfl
theorem Fr.abs {t b u d : Int} (h : Fr t b u d) (hd : 1 ≤ d) : Fr (t.natAbs : Int) b (u.natAbs : Int) d := by
  obtain ⟨h1, h2, h3⟩ := h
  refine ⟨h1, by simpa using h2, ?_⟩
  have q := congrArg Int.natAbs h3
  rw [Int.natAbs_mul, Int.natAbs_mul] at q
  have e1 : ((t.natAbs * d.natAbs : Nat) : Int) = ((u.natAbs * b.natAbs : Nat) : Int) := by rw [q]
  have e2 : (d.natAbs : Int) = d := by omega
  have e3 : (b.natAbs : Int) = b := by omega
  rw [Int.natCast_mul, Int.natCast_mul, e2, e3] at e1
  exact e1
/-- the sum of a row -/
def sumStep (s : Int × Int) (f : Int × Int) : Int × Int := (s.1 * f.2 + f.1 * s.2, s.2 * f.2)
def sumRow (l : List (Int × Int)) : Int × Int := l.foldl sumStep (0, 1)
theorem take_more {α : Type} : ∀ {l : List α} {i : Nat} {x : α}, l[i]? = some x → l.take (i + 1) = l.take i ++ [x]
  | [], i, x, h => by simp at h
  | a :: l, 0, x, h => by simp at h; simp [h]
  | a :: l, i + 1, x, h => by
    have := take_more (l := l) (i := i) (x := x) (by simpa using h)
    simp [this]
theorem sum_more {l : List (Int × Int)} {i : Nat} {f : Int × Int} (h : l[i]? = some f) : sumRow (l.take (i + 1)) = sumStep (sumRow (l.take i)) f := by
  unfold sumRow
  rw [take_more h, List.foldl_append]
  rfl
/-- the greatest of a row -/
def bestStep (s : Int × Int) (f : Int × Int) : Int × Int := if f.1 * s.2 > s.1 * f.2 then f else s
def bestRow (l : List (Int × Int)) : Int × Int := l.foldl bestStep (0, 1)
theorem best_more {l : List (Int × Int)} {i : Nat} {f : Int × Int} (h : l[i]? = some f) : bestRow (l.take (i + 1)) = bestStep (bestRow (l.take i)) f := by
  unfold bestRow
  rw [take_more h, List.foldl_append]
  rfl
theorem le_trans' {a b c d e f : Int} (hb : 1 ≤ b) (hd : 1 ≤ d) (hf : 1 ≤ f) (h1 : a * d ≤ c * b) (h2 : c * f ≤ e * d) : a * f ≤ e * b := by
  have p : 0 < d := hd
  rw [← mul_le_iff p]
  have e1 : a * f * d = a * d * f := by grind
  have e2 : e * b * d = e * d * b := by grind
  rw [e1, e2]
  have q1 : a * d * f ≤ c * b * f := Int.mul_le_mul_of_nonneg_right h1 (by omega)
  have q2 : c * f * b ≤ e * d * b := Int.mul_le_mul_of_nonneg_right h2 (by omega)
  have e3 : c * b * f = c * f * b := by grind
  omega
theorem best_all : ∀ (l : List (Int × Int)) (s : Int × Int), 1 ≤ s.2 → (∀ f ∈ l, 1 ≤ f.2) → 1 ≤ (l.foldl bestStep s).2 ∧ s.1 * (l.foldl bestStep s).2 ≤ (l.foldl bestStep s).1 * s.2 ∧ ∀ f ∈ l, f.1 * (l.foldl bestStep s).2 ≤ (l.foldl bestStep s).1 * f.2
  | [], s, hs, _ => ⟨hs, Int.le_refl _, fun f hf => by cases hf⟩
  | g :: r, s, hs, hl => by
    have hg := hl g List.mem_cons_self
    have hm : 1 ≤ (bestStep s g).2 := by unfold bestStep; split <;> assumption
    have a1 : s.1 * (bestStep s g).2 ≤ (bestStep s g).1 * s.2 := by
      unfold bestStep; split
      · omega
      · exact Int.le_refl _
    have a2 : g.1 * (bestStep s g).2 ≤ (bestStep s g).1 * g.2 := by
      unfold bestStep; split
      · exact Int.le_refl _
      · omega
    obtain ⟨q1, q2, q3⟩ := best_all r (bestStep s g) hm fun f hf => hl f (List.mem_cons_of_mem _ hf)
    refine ⟨q1, le_trans' hs hm q1 a1 q2, fun f hf => ?_⟩
    rcases List.mem_cons.mp hf with rfl | hf
    · exact le_trans' hg hm q1 a2 q2
    · exact q3 f hf
theorem best_mem : ∀ (l : List (Int × Int)) (s : Int × Int), l.foldl bestStep s = s ∨ l.foldl bestStep s ∈ l
  | [], s => .inl rfl
  | g :: r, s => by
    show r.foldl bestStep (bestStep s g) = s ∨ r.foldl bestStep (bestStep s g) ∈ g :: r
    have h1 : bestStep s g = s ∨ bestStep s g = g := by unfold bestStep; split <;> simp
    rcases best_mem r (bestStep s g) with h | h
    · rw [h]
      rcases h1 with h1 | h1
      · exact .inl h1
      · rw [h1]; exact .inr List.mem_cons_self
    · exact .inr (List.mem_cons_of_mem _ h)
end Fr
set_option Elab.async false
set_option linter.all false
set_option autoImplicit false
set_option maxRecDepth 100000
set_option maxHeartbeats 4000000
namespace U
open PySem PySem.Spec PyProof.Rows L2
/-! ## str(x), x an own instance -/
section
variable {X : Cx} {CX : CXT} {n : Nat} {C : Addr} {ps : List Str} {sp : Sp} {E : XK}
def rStrOwn (C : Addr) (sp : Sp) (E : XK) : List V → Hp → VK → Prop := fun xs H Q => ∃ a dx fs, xs = [V.ref a] ∧ H a = some (.ins C dx fs) ∧ sp [.ref a] H (fun z H' => ∃ y, z = .str y ∧ Q z H') E
theorem call_strOwn (F : Mc X.prog X.w X.K X.mg X.base CX n C "__str__" ps sp) (hx : Passes CX X E) (hr : Room (n + 2) X.A) : CallR X (.type "str") (rStrOwn C sp E) := by
  obtain ⟨f, fd, ok, a, i, _, b⟩ := F
  intro pins s σ H xs us Q inv rel asked
  obtain ⟨p, dx, fs, rfl, hp, go⟩ := asked
  obtain ⟨u, rfl, ru⟩ := rel.one
  cases (show u = Value.ref p from ru)
  obtain ⟨_, J, _⟩ := ins_get inv.hok hp
  obtain ⟨_, J, _⟩ := J.look
  have r2 : Room n X.A.in1.in1 := (show Room (n + 1) X.A.in1 from Room.in1 hr).in1
  refine PySem.W.kso_call r2.units0 inv.kIn J a i ?_
  have len : [Value.ref p].length = ps.length := ok.len _ _ _ _ go
  have bd := b s [Value.ref p] inv.kIn (by rw [List.append_nil]; exact len)
  rw [List.append_nil] at bd
  refine wpAny_call (codeAny_mono (ok.run _ X.stack s H ⟨[.ref p], []⟩ [.ref p] [.ref p] _ E r2 inv.env0.in1.in1 bd (.cons rfl .nil) go) fun r s' hq => ?_)
  cases r with
  | error e => exact hx pins σ H s e s' inv hq
  | ok fl =>
    cases fl with
    | ret u =>
      obtain ⟨v, H3, J3, rv, y, ey, q⟩ := inv.after hq
      subst ey
      obtain ⟨t, e⟩ := (show ∃ t, u = Value.str y t from rv)
      subst e
      exact ⟨.str y, H3, J3, ⟨t, rfl⟩, q⟩
    | next => exact hq.elim
    | brk => exact hq.elim
    | cont => exact hq.elim
end
/-! ## static methods -/
/-- C.m is a staticmethod: its record at p, its def at g -/
structure SmC (K : PySem.W.Frag) (C : Addr) (mc : Value) (m : Str) (p g : Addr) : Prop where
  rd : PySem.W.readsIn K C mc = true
  ga : PySem.W.specialIn K (.ref C) "__getattribute__" = some (some (.builtin "type.__getattribute__"))
  at_ : PySem.W.findCls K (.ref C) mc m = some (.get (.builtin "staticmethod.__get__") (.ref p) .none (.ref C))
  rc : ∃ rest, PySem.W.recIn K p "staticmethod" = some (.ref g :: rest)
/-- .. reached through an instance of C -/
structure SmI (K : PySem.W.Frag) (C : Addr) (m : Str) (p g : Addr) : Prop where
  pg : PySem.W.plainGet K C Str.empty = true
  ic : PySem.W.isClsIn K C = true
  at_ : PySem.W.findIn K (.ref C) m = some (some (.ref p))
  ty : PySem.W.typeIn K (.ref p) = some (.type "staticmethod")
  get : PySem.W.specialIn K (.ref p) "__get__" = some (some (.builtin "staticmethod.__get__"))
  tk : PySem.W.takesIn K (.ref p) = some false
  cp : PySem.W.copiedNames.contains m = false
  rc : ∃ rest, PySem.W.recIn K p "staticmethod" = some (.ref g :: rest)
/-- C.m(..) -/
def tSm (C : Addr) (sp : Sp) (E : L2.St → XK) (ta : TE) (t : TA) : TE := fun σ H Q => ta σ H fun x H1 => x = .ref C ∧ t σ H1 fun vs H2 => sp vs H2 Q (E σ)
def tSmI (C : Addr) (m : Str) (sp : Sp) (E : L2.St → XK) (ta : TE) (t : TA) : TE := fun σ H Q => ta σ H fun x H1 => MethQ C m x H1 (t σ H1 fun vs H2 => sp vs H2 Q (E σ))
section
variable {X : Cx} {CX : CXT} {k : Nat} {C p g : Addr} {mc : Value} {ps : List Str} {sp : Sp} {E : L2.St → XK} {o e : Expr} {es : List Expr} {m : Str} {pos apos : Pos} {ta : TE} {t : TA} {pl : Sem Bool} {fd : FuncData}
theorem pe_sm (S : SmC X.K C mc m p g) (F : FnOk X.prog X.w X.K X.mg X.base CX k g fd ps sp) (hk : PySem.W.keepIn X.K (.ref g) = true) (hb : Binds X.K fd ps []) (hx : ∀ σ, PassesAt CX X σ (E σ)) (hr : Room k X.A) (he : PE X o ta) (ha : PA X (e :: es) t)
    (hst : starEach (e :: es) X.env = (false, eval e X.env) :: starEach es X.env := by rfl) (hpl : (backTo pos (starEach es X.env)).any (·.1) = false := by rfl)
    (ht : eval (.Call (.Attribute o m apos) (e :: es) [] pos) X.env = (do
      let ov ← eval o X.env
      standAt apos.atName
      let (f, first) ← holding [ov] (getMethod ov m pl)
      callWith pos f first (backTo pos (starEach (e :: es) X.env)) (backToKw pos (keywordEach [] X.env))) := by rfl) :
    PE X (.Call (.Attribute o m apos) (e :: es) [] pos) (tSm C sp E ta t) := by
  refine ⟨fun pins s σ H Q I h => ?_⟩
  refine PySem.W.methodCall_KW (pl := pl) (thn (he.run pins s σ H _ I h) fun u s1 ⟨x, H1, I1, rx, ex, q⟩ => ?_) ht
  subst ex
  obtain rfl : u = Value.ref C := rx
  obtain ⟨rest, hp⟩ := S.rc
  refine PySem.W.method_cls I1.kIn S.ga (PySem.W.cls_bind I1.kIn S.rd S.at_ ?_)
  refine wpAny_call (PySem.W.sm_get (s := { s1 with toks := s1.toks + 1 }) I1.kIn hp (PySem.W.handed_on rfl ?_))
  have I2 : Inv X pins σ H1 { s1 with toks := s1.toks + 1 } := I1.tok _
  refine PySem.W.callWith_K (h₀ := X.base) (first := []) I.ok.mod.kin hk (thn (ha.run pos pins _ σ H1 _ I2 q) fun us s3 ⟨vs, H2, I3, rv, q2⟩ => ⟨I3.kIn, ?_⟩) hst hpl
  exact run_fnS F hr hb (hx σ) I3 rv q2
theorem pe_smI (S : SmI X.K C m p g) (F : FnOk X.prog X.w X.K X.mg X.base CX k g fd ps sp) (hk : PySem.W.keepIn X.K (.ref g) = true) (hb : Binds X.K fd ps []) (hx : ∀ σ, PassesAt CX X σ (E σ)) (hr : Room k X.A) (he : PE X o ta) (ha : PA X (e :: es) t)
    (hst : starEach (e :: es) X.env = (false, eval e X.env) :: starEach es X.env := by rfl) (hpl : (backTo pos (starEach es X.env)).any (·.1) = false := by rfl)
    (ht : eval (.Call (.Attribute o m apos) (e :: es) [] pos) X.env = (do
      let ov ← eval o X.env
      standAt apos.atName
      let (f, first) ← holding [ov] (getMethod ov m pl)
      callWith pos f first (backTo pos (starEach (e :: es) X.env)) (backToKw pos (keywordEach [] X.env))) := by rfl) :
    PE X (.Call (.Attribute o m apos) (e :: es) [] pos) (tSmI C m sp E ta t) := by
  refine ⟨fun pins s σ H Q I h => ?_⟩
  refine PySem.W.methodCall_KW (pl := pl) (thn (he.run pins s σ H _ I h) fun u s1 ⟨x, H1, I1, rx, a, dx, fs, ex, ea, l, q⟩ => ?_) ht
  subst ex
  obtain rfl : u = Value.ref a := rx
  obtain ⟨mA, O, rr, _, _, _⟩ := ins_get I1.hok ea
  have hn : mA m = none := RelO.none_of (by rw [← l]; exact rr m)
  obtain ⟨od, J, hl⟩ := O.look
  obtain ⟨rest, hp⟩ := S.rc
  refine PySem.W.method_usual (r := some (.ref p)) I1.kIn J (PySem.W.plainGet_of (name := m) S.pg).1 (PySem.W.plainGet_of (name := m) S.pg).2 S.at_ ?_ ?_
  · show ((PySem.W.typeIn X.K (.ref p)).any fun t => t != .type "function" && t != .type "method_descriptor" && t != .type "wrapper_descriptor") = true
    rw [S.ty]
    first
    | rfl
    | decide +kernel
  · refine PySem.W.get_bind I1.kIn J (PySem.W.plainGet_of (name := m) S.pg).1 (ClX.find_cm S.ic S.at_ S.get S.tk S.cp (by rw [hl m, hn])) (PySem.W.plainGet_of (name := m) S.pg).2 ?_
    refine wpAny_call (PySem.W.sm_get (s := { s1 with toks := s1.toks + 1 }) I1.kIn hp (PySem.W.handed_on rfl ?_))
    have I2 : Inv X pins σ H1 { s1 with toks := s1.toks + 1 } := I1.tok _
    refine PySem.W.callWith_K (h₀ := X.base) (first := []) I.ok.mod.kin hk (thn (ha.run pos pins _ σ H1 _ I2 q) fun us s3 ⟨vs, H2, I3, rv, q2⟩ => ⟨I3.kIn, ?_⟩) hst hpl
    exact run_fnS F hr hb (hx σ) I3 rv q2
end
/-! ## texts -/
abbrev TS_ := SX.S
def rFind : V → List V → Hp → VK → Prop := fun x xs H Q => ∃ a b, x = .str a ∧ xs = [.str b] ∧ Q (.int (Txt.find a b)) H
def rPart : V → List V → Hp → VK → Prop := fun x xs H Q => ∃ a b, x = .str a ∧ xs = [.str b] ∧ (b.length == 0) = false ∧ a.length ≤ sizeLine ∧
    ∀ p, H p = none → Q (.ref p) (upd H p (.tup [.str (Txt.partition a b).1, .str (Txt.partition a b).2.1, .str (Txt.partition a b).2.2]))
def rRmp : V → List V → Hp → VK → Prop := fun x xs H Q => ∃ a b, x = .str a ∧ xs = [.str b] ∧ a.length ≤ sizeLine ∧ Q (.str (Txt.removeprefix a b)) H
def rAsc : V → List V → Hp → VK → Prop := fun x xs H Q => ∃ a, x = .str a ∧ xs = [] ∧ True ∧ Q (.bl (Txt.isascii a)) H
def rDgt : V → List V → Hp → VK → Prop := fun x xs H Q => ∃ a, x = .str a ∧ xs = [] ∧ True ∧ Q (.bl (Txt.isdigit a)) H
def rAddS : R2 := fun x y H Q => ∃ i j, x = .str i ∧ y = .str j ∧ i.length + j.length ≤ sizeLine ∧ Q (.str (i ++ j)) H
def rLenS : List V → Hp → VK → Prop := fun xs H Q => ∃ z, xs = [.str z] ∧ z.length ≤ sizeLine ∧ Q (.int z.length) H
def rStrI : List V → Hp → VK → Prop := fun xs H Q => ∃ i, xs = [.int i] ∧ i.natAbs.log2 < 1920 ∧ Q (.str (toString i)) H
def rIntS : List V → Hp → VK → Prop := fun xs H Q => ∃ a n, xs = [.str a] ∧ PySem.intText? a = some n ∧ a.length ≤ 640 ∧ Q (.int n) H
def rInS : R2 := fun x y H Q => ∃ (c : Nat) (z : Str), x = .str ⟨#[c]⟩ ∧ y = .str z ∧ Q (.bl (decide (c ∈ z.cps.toList))) H
def rNiS : R2 := fun x y H Q => ∃ (c : Nat) (z : Str), x = .str ⟨#[c]⟩ ∧ y = .str z ∧ Q (.bl (!decide (c ∈ z.cps.toList))) H
def rIsN : R2 := fun x y H Q => y = .non ∧ Q (.bl (decide (x = .non))) H
def rNoN : R2 := fun x y H Q => y = .non ∧ Q (.bl (!decide (x = .non))) H
def rRepS : R2 := fun x y H Q => ∃ (c : Nat) (n : Int), x = .str ⟨#[c]⟩ ∧ y = .int n ∧ -100000 ≤ n ∧ n ≤ 100000 ∧ Q (.str (Txt.mul ⟨#[c]⟩ n)) H
section
variable {X : Cx}
theorem m_find : MtR X "str.find" rFind := mt_find
theorem m_part : MtR X "str.partition" rPart := mt_partition
theorem m_rmp : MtR X "str.removeprefix" rRmp := mt_removeprefix
theorem m_asc : MtR X "str.isascii" rAsc := mt_isascii
theorem m_dgt : MtR X "str.isdigit" rDgt := mt_isdigit
theorem o_addS : OpR X (binaryOp .Add) rAddS := op_add_str
theorem c_lenS : CallR X (.builtin "len") rLenS := call_len_str
theorem c_strI : CallR X (.type "str") rStrI := call_str_int
theorem c_intS : CallR X (.type "int") rIntS := call_int_str
theorem o_inS : OpR X (compareOp .In) rInS := op_in_sign
theorem o_niS : OpR X (compareOp .NotIn) rNiS := op_notIn_sign
theorem o_isN : OpR X (compareOp .Is) rIsN := op_isN
theorem o_noN : OpR X (compareOp .IsNot) rNoN := op_notN
theorem mulOk1 {c : Nat} {n : Int} (h0 : -100000 ≤ n) (h1 : n ≤ 100000) : MulOk ⟨#[c]⟩ n := by
  have l1 : (⟨#[c]⟩ : Str).length = 1 := rfl
  refine ⟨?_, fun p _ => ?_, fun p _ => ?_⟩
  · rw [Bool.or_eq_false_iff]
    exact ⟨decide_eq_false (by omega), decide_eq_false (by omega)⟩
  · rw [l1]
    have : (1 : Int) ≤ (2 ^ 63 - 1) / n := (Int.le_ediv_iff_mul_le (by omega)).mpr (by omega)
    omega
  · rw [l1]
    unfold Builtin.Str.tooLong
    refine decide_eq_false ?_
    have e : sizeLine = 16777216 := by decide
    rw [e]
    omega
theorem o_repS : OpR X (binaryOp .Mult) rRepS := by
  intro pins s σ H x y v u Q I rx ry h
  obtain ⟨c, n, rfl, rfl, h0, h1, q⟩ := h
  obtain ⟨t, rfl⟩ := rx
  obtain ⟨t', rfl⟩ := ry
  exact PySem.SB.mul (mulOk1 h0 h1) fun t' k => ⟨.str _, H, I.tok _, ⟨_, rfl⟩, q⟩
end
section
variable {σ : L2.St} {H : Hp} {Q : VK} {K : PySem.W.Frag} {a b : Str} {i : Int} {c : Nat}
theorem bm_str {R : Prop} (q : R) : BmQ K "str" (.str a) H R := ⟨rfl, q⟩
theorem u_bm0 {T : String} {r : V → List V → Hp → VK → Prop} {to : TE} (h : to σ H fun x H1 => BmQ K T x H1 (r x [] H1 Q)) : tBM0 K T r to σ H Q := h
theorem sl5 {n : Nat} (h : n ≤ 100000) : n ≤ sizeLine := Nat.le_trans h (by decide)
theorem u_find (q : Q (.int (Txt.find a b)) H) : rFind (.str a) [.str b] H Q := ⟨a, b, rfl, rfl, q⟩
theorem u_partS (hb : (b.length == 0) = false) (ha : a.length ≤ 100000) (k : ∀ p H', H p = none → Kp [] H H' → H' p = some (.tup [.str (Txt.partition a b).1, .str (Txt.partition a b).2.1, .str (Txt.partition a b).2.2]) → Q (.ref p) H') : rPart (.str a) [.str b] H Q :=
  ⟨a, b, rfl, rfl, hb, sl5 ha, fun p hp => k p _ hp (Kp.new hp) upd_same⟩
theorem u_rmp (ha : a.length ≤ 100000) (q : Q (.str (Txt.removeprefix a b)) H) : rRmp (.str a) [.str b] H Q := ⟨a, b, rfl, rfl, sl5 ha, q⟩
theorem u_asc (q : Q (.bl (Txt.isascii a)) H) : rAsc (.str a) [] H Q := ⟨a, rfl, rfl, trivial, q⟩
theorem u_dgt (q : Q (.bl (Txt.isdigit a)) H) : rDgt (.str a) [] H Q := ⟨a, rfl, rfl, trivial, q⟩
theorem u_addS (h : a.length + b.length ≤ 100000) (q : Q (.str (a ++ b)) H) : rAddS (.str a) (.str b) H Q := ⟨a, b, rfl, rfl, sl5 h, q⟩
theorem u_lenS (h : a.length ≤ 100000) (q : Q (.int a.length) H) : rLenS [.str a] H Q := ⟨a, rfl, sl5 h, q⟩
theorem u_strI (h : i.natAbs.log2 < 1920) (q : Q (.str (toString i)) H) : rStrI [.int i] H Q := ⟨i, rfl, h, q⟩
theorem u_intS {n : Int} (e : PySem.intText? a = some n) (h : a.length ≤ 640) (q : Q (.int n) H) : rIntS [.str a] H Q := ⟨a, n, rfl, e, h, q⟩
theorem u_inS (q : Q (.bl (decide (c ∈ b.cps.toList))) H) : rInS (.str ⟨#[c]⟩) (.str b) H Q := ⟨c, b, rfl, rfl, q⟩
theorem u_niS (q : Q (.bl (!decide (c ∈ b.cps.toList))) H) : rNiS (.str ⟨#[c]⟩) (.str b) H Q := ⟨c, b, rfl, rfl, q⟩
theorem u_isNn (q : Q (.bl true) H) : rIsN .non .non H Q := ⟨rfl, q⟩
theorem u_isNr {p : Addr} (q : Q (.bl false) H) : rIsN (.ref p) .non H Q := ⟨rfl, q⟩
theorem u_repS (h0 : -100000 ≤ i) (h1 : i ≤ 100000) (q : Q (.str (Txt.mul ⟨#[c]⟩ i)) H) : rRepS (.str ⟨#[c]⟩) (.int i) H Q := ⟨c, i, rfl, rfl, h0, h1, q⟩
theorem u_ixS (ha : a.length ≤ 100000) (h0 : 0 ≤ i) (h1 : i < a.length) (k : ∀ c, atI a.cps.toList i = some c → Q (.str ⟨#[c]⟩) H) : rIxS (.str a) (.int i) H Q := by
  have h2 : i < (a.cps.toList.length : Int) := by rw [Array.length_toList]; exact h1
  obtain ⟨n, rfl⟩ : ∃ n : Nat, i = (n : Int) := ⟨i.toNat, by omega⟩
  have hn : n < a.cps.toList.length := by omega
  have e : atI a.cps.toList (n : Int) = some a.cps.toList[n] := atI_nat (List.getElem?_eq_getElem hn)
  exact ⟨a, n, _, rfl, rfl, sl5 ha, e, k _ e⟩
theorem u_slX {lo hi : Option Int} (ha : a.length ≤ 100000) (q : Q (.str (Txt.slice a lo hi)) H) : C8.rSlX (.str a) lo hi H Q := ⟨a, rfl, sl5 ha, q⟩
def ItSq (x : V) (R : It → Hp → Prop) (H : Hp) : Prop := ∃ z, x = .str z ∧ R (Its z) H
theorem u_iS {tl : TE} {R : It → Hp → Prop} (h : tl σ H fun x H1 => ItSq x R H1) : iStr tl σ H R := h
theorem u_iSq {R : It → Hp → Prop} (q : R (Its a) H) : ItSq (.str a) R H := ⟨a, rfl, q⟩
theorem l_str {g : TG} {tb : TS} {D : Ends} (Pv : Nat → L2.St → Hp → Prop) (h0 : Pv 0 σ H)
    (hs : ∀ i c σ H, a.cps.toList[i]? = some c → Pv i σ H → g (.str ⟨#[c]⟩) σ H fun σ2 H2 => tb { D with nx := Pv (i + 1), ct := Pv (i + 1), bk := D.nx } σ2 H2) (hd : ∀ σ H, Pv a.cps.toList.length σ H → D.nx σ H) : LoopQ (Its a) g tb D σ H := by
  have hsz : a.cps.toList.length = a.cps.size := Array.length_toList
  refine ⟨fun i m σ H => m = a.cps.toList.length - i ∧ i ≤ a.cps.toList.length ∧ Pv i σ H, ⟨_, rfl, Nat.zero_le _, h0⟩, ?_⟩
  rintro i m σ H ⟨rfl, hi, p⟩
  by_cases hlt : i < a.cps.toList.length
  · refine .inr ⟨(by show i < a.cps.size; omega), Pv (i + 1), fun σ' H' p' => ⟨a.cps.toList.length - (i + 1), by omega, rfl, hlt, p'⟩, ?_⟩
    rintro x H' ⟨rfl, c, hc, rfl⟩
    exact hs i c σ _ (by rw [← hc, Array.getElem?_toList]) p
  · obtain rfl : i = a.cps.toList.length := by omega
    exact .inl ⟨by show a.cps.size ≤ _; omega, hd σ H p⟩
/-! f-strings -/
def JsQ (x : V) (acc : Str) (H : Hp) (R : Str → Prop) : Prop := ∃ y : Str, x = .str y ∧ (acc ++ y).length ≤ sizeLine ∧ R (acc ++ y)
theorem js_nil {acc : Str} {Q : Str → Hp → Prop} (q : Q acc H) : tJs [] acc σ H Q := q
theorem js_cons {t : TE} {ts : List TE} {acc : Str} {Q : Str → Hp → Prop} (h : t σ H fun x H1 => JsQ x acc H1 fun out => tJs ts out σ H1 Q) : tJs (t :: ts) acc σ H Q := h
theorem jsQ {acc y : Str} {R : Str → Prop} (h : acc.length + y.length ≤ 100000) (q : R (acc ++ y)) : JsQ (.str y) acc H R := ⟨y, rfl, by rw [Str.length_append]; exact sl5 h, q⟩
def tJoin (ts : List TE) : TE := fun σ H Q => tJs ts Str.empty σ H fun out H1 => Q (.str out) H1
theorem u_join {ts : List TE} (h : tJs ts Str.empty σ H fun out H1 => Q (.str out) H1) : tJoin ts σ H Q := h
theorem pe_join {X : Cx} {v1 v2 : Expr} {rest : List Expr} {ts : List TE} {pos : Pos} (h : PJ X (v1 :: v2 :: rest) ts) : PE X (.JoinedStr (v1 :: v2 :: rest) pos) (tJoin ts) := pe_joined h
def FmtQ (x : V) (H : Hp) (Q : VK) : Prop := (∃ y : Str, x = .str y ∧ y.length ≤ sizeLine ∧ Q (.str y) H) ∨ ∃ i : Int, x = .int i ∧ i.natAbs.log2 < 1920 ∧ Q (.str (toString i)) H
theorem u_fmt {te : TE} (h : te σ H fun x H1 => FmtQ x H1 Q) : tFmt te σ H Q := h
theorem fmtI (h : i.natAbs.log2 < 1920) (q : Q (.str (toString i)) H) : FmtQ (.int i) H Q := .inr ⟨i, rfl, h, q⟩
theorem fmtS (h : a.length ≤ 100000) (q : Q (.str a) H) : FmtQ (.str a) H Q := .inl ⟨a, rfl, sl5 h, q⟩
/-! static methods, str of own -/
theorem u_sm {C : Addr} {sp : Sp} {E : L2.St → XK} {ta : TE} {t : TA} (h : ta σ H fun x H1 => x = .ref C ∧ t σ H1 fun vs H2 => sp vs H2 Q (E σ)) : tSm C sp E ta t σ H Q := h
def SmQ (C : Addr) (x : V) (R : Prop) : Prop := x = .ref C ∧ R
theorem u_smQ {C : Addr} {sp : Sp} {E : L2.St → XK} {ta : TE} {t : TA} (h : ta σ H fun x H1 => SmQ C x (t σ H1 fun vs H2 => sp vs H2 Q (E σ))) : tSm C sp E ta t σ H Q := h
theorem smQ {C : Addr} {R : Prop} (q : R) : SmQ C (.ref C) R := ⟨rfl, q⟩
theorem u_smI {C : Addr} {m : Str} {sp : Sp} {E : L2.St → XK} {ta : TE} {t : TA} (h : ta σ H fun x H1 => MethQ C m x H1 (t σ H1 fun vs H2 => sp vs H2 Q (E σ))) : tSmI C m sp E ta t σ H Q := h
end
section
variable {X : Cx} {H : Hp} {Q : VK}
theorem o_catL : OpR X (binaryOp .Add) rCat := op_cat
theorem u_catL {l m : Addr} {xs zs : List V} (h1 : H l = some (.lst xs)) (h2 : H m = some (.lst zs)) (hz : xs.length + zs.length ≤ 100000) (k : ∀ p H', H p = none → Kp [] H H' → H' p = some (.lst (xs ++ zs)) → Q (.ref p) H') : rCat (.ref l) (.ref m) H Q :=
  ⟨l, m, xs, zs, rfl, rfl, h1, h2, sl5 hz, fun p hp => k p _ hp (Kp.new hp) upd_same⟩
end
/-- a static method: found off the class and off an instance, and its promise -/
def NcSm (P : Program) (w : World) (K : PySem.W.Frag) (mg : Str → Option Value) (base : Heap) (CX : CXT) (k : Nat) (C : Addr) (m : Str) (ps : List Str) (sp : Sp) : Prop :=
  ∃ p g fd, SmC K C (.type "type") m p g ∧ SmI K C m p g ∧ PySem.W.keepIn K (.ref g) = true ∧ FnOk P w K mg base CX k g fd ps sp ∧ Binds K fd ps []
section
variable {X : Cx} {CX : CXT} {k : Nat} {C : Addr} {ps : List Str} {sp : Sp} {E : L2.St → XK} {o e : Expr} {es : List Expr} {m : Str} {pos apos : Pos} {ta : TE} {t : TA}
theorem pe_smN {pl : Sem Bool} (F : NcSm X.prog X.w X.K X.mg X.base CX k C m ps sp) (hx : ∀ σ, PassesAt CX X σ (E σ)) (hr : Room k X.A) (he : PE X o ta) (ha : PA X (e :: es) t)
    (hst : starEach (e :: es) X.env = (false, eval e X.env) :: starEach es X.env := by rfl) (hpl : (backTo pos (starEach es X.env)).any (·.1) = false := by rfl)
    (ht : eval (.Call (.Attribute o m apos) (e :: es) [] pos) X.env = (do
      let ov ← eval o X.env
      standAt apos.atName
      let (f, first) ← holding [ov] (getMethod ov m pl)
      callWith pos f first (backTo pos (starEach (e :: es) X.env)) (backToKw pos (keywordEach [] X.env))) := by rfl) :
    PE X (.Call (.Attribute o m apos) (e :: es) [] pos) (tSm C sp E ta t) := by
  obtain ⟨p, g, fd, S, _, hk, F, b⟩ := F
  exact pe_sm (pl := pl) S F hk b hx hr he ha hst hpl ht
theorem pe_smJ {pl : Sem Bool} (F : NcSm X.prog X.w X.K X.mg X.base CX k C m ps sp) (hx : ∀ σ, PassesAt CX X σ (E σ)) (hr : Room k X.A) (he : PE X o ta) (ha : PA X (e :: es) t)
    (hst : starEach (e :: es) X.env = (false, eval e X.env) :: starEach es X.env := by rfl) (hpl : (backTo pos (starEach es X.env)).any (·.1) = false := by rfl)
    (ht : eval (.Call (.Attribute o m apos) (e :: es) [] pos) X.env = (do
      let ov ← eval o X.env
      standAt apos.atName
      let (f, first) ← holding [ov] (getMethod ov m pl)
      callWith pos f first (backTo pos (starEach (e :: es) X.env)) (backToKw pos (keywordEach [] X.env))) := by rfl) :
    PE X (.Call (.Attribute o m apos) (e :: es) [] pos) (tSmI C m sp E ta t) := by
  obtain ⟨p, g, fd, _, S, hk, F, b⟩ := F
  exact pe_smI (pl := pl) S F hk b hx hr he ha hst hpl ht
end
end U
set_option Elab.async false
set_option linter.all false
set_option autoImplicit false
set_option maxRecDepth 100000
set_option maxHeartbeats 4000000
namespace Tx
open PySem PySem.Spec PyProof.Rows C8 SX
abbrev Dg (l : List Nat) : Prop := ∀ c ∈ l, 48 ≤ c ∧ c ≤ 57
/-- digits as a number is written -/
def Canon (l : List Nat) : Prop := l ≠ [] ∧ Dg l ∧ (1 < l.length → l.head? ≠ some 48)
theorem dg_num (n : Nat) : Dg (TL.numL n) := TL.numL_digits n
theorem val_snoc (l : List Nat) (c : Nat) : NumText.digitsVal (l ++ [c]) = NumText.digitsVal l * 10 + (c - 48) := by
  unfold NumText.digitsVal
  rw [List.foldl_append]
  rfl
theorem num_head : ∀ n : Nat, 1 ≤ n → (TL.numL n).head? ≠ some 48 := by
  intro n
  induction n using Nat.strongRecOn with
  | _ n ih =>
    intro h
    by_cases h10 : n < 10
    · rw [TL.numL_lt h10]
      simp
      omega
    · rw [TL.numL_step (by omega)]
      have i := ih (n / 10) (by omega) (by omega)
      cases e : TL.numL (n / 10) with
      | nil => exact absurd e (TL.numL_ne _)
      | cons a r => rw [e] at i; simpa using i
theorem canon_num (n : Nat) : Canon (TL.numL n) := by
  refine ⟨TL.numL_ne n, dg_num n, fun h => ?_⟩
  by_cases h0 : n = 0
  · subst h0
    rw [TL.numL_lt (by decide)] at h
    simp at h
  · exact num_head n (by omega)
theorem num_back : ∀ (k : Nat) (l : List Nat), l.length = k → Canon l → TL.numL (NumText.digitsVal l) = l := by
  intro k
  induction k with
  | zero => intro l hl h; exact absurd (List.eq_nil_of_length_eq_zero hl) h.1
  | succ k ih =>
    intro l hl h
    obtain ⟨l', c, rfl⟩ : ∃ l' c, l = l' ++ [c] := ⟨l.dropLast, l.getLast h.1, (List.dropLast_concat_getLast h.1).symm⟩
    have hc := h.2.1 c (by simp)
    rw [val_snoc]
    by_cases h0 : l' = []
    · subst h0
      have e : NumText.digitsVal [] = 0 := rfl
      rw [e, Nat.zero_mul, Nat.zero_add, TL.numL_lt (by omega)]
      simp
      omega
    · have hl' : l'.length = k := by simp at hl; omega
      have hd : (l' ++ [c]).head? = l'.head? := by
        cases l' with
        | nil => exact absurd rfl h0
        | cons a r => rfl
      have h1 : 1 < (l' ++ [c]).length := by
        have := List.length_pos_iff.mpr h0
        simp; omega
      have hn := h.2.2 h1
      rw [hd] at hn
      have i := ih l' hl' ⟨h0, fun x hx => h.2.1 x (by simp [hx]), fun _ => hn⟩
      have v1 : 1 ≤ NumText.digitsVal l' := by
        rcases Nat.eq_zero_or_pos (NumText.digitsVal l') with z | z
        · rw [z, TL.numL_lt (by decide)] at i
          rw [← i] at hn
          exact absurd rfl hn
        · exact z
      rw [TL.numL_step (by omega)]
      have e1 : (NumText.digitsVal l' * 10 + (c - 48)) / 10 = NumText.digitsVal l' := by omega
      have e2 : 48 + (NumText.digitsVal l' * 10 + (c - 48)) % 10 = c := by omega
      rw [e1, e2, i]
theorem num_of {l : List Nat} (h : Canon l) : TL.numL (NumText.digitsVal l) = l := num_back _ l rfl h
/-- an integer, written -/
def iL (i : Int) : List Nat := if i < 0 then 45 :: TL.numL i.natAbs else TL.numL i.natAbs
theorem str_int (i : Int) : Str.ofString (toString i) = S (iL i) := by
  unfold iL
  by_cases h : i < 0
  · rw [if_pos h]
    obtain ⟨n, rfl⟩ : ∃ n, i = Int.negSucc n := ⟨i.natAbs - 1, by omega⟩
    apply TL.ext_tl
    rw [TL.tl_ofString]
    show ("-" ++ Nat.repr (n + 1)).toList.map Char.toNat = _
    rw [String.toList_append, List.map_append, Nat.toList_repr]
    rfl
  · rw [if_neg h]
    obtain ⟨n, rfl⟩ := Int.eq_ofNat_of_zero_le (show 0 ≤ i by omega)
    exact num_S n
theorem num_inj {m n : Nat} (h : TL.numL m = TL.numL n) : m = n := TL.numL_inj h
theorem free47 (n : Nat) : 47 ∉ TL.numL n := TL.numL_free (by omega)
theorem free45 (n : Nat) : 45 ∉ TL.numL n := TL.numL_free (by omega)
theorem iL_free (i : Int) : 47 ∉ iL i := by
  unfold iL
  split
  · simp [free47]
  · exact free47 _
theorem iL_inj {i j : Int} (h : iL i = iL j) : i = j := by
  unfold iL at h
  split at h <;> split at h
  · have := num_inj (List.cons.inj h).2; omega
  · exact absurd (h ▸ List.mem_cons_self : 45 ∈ TL.numL j.natAbs) (free45 _)
  · exact absurd (h.symm ▸ List.mem_cons_self : 45 ∈ TL.numL i.natAbs) (free45 _)
  · have := num_inj h; omega
/-- the text of a share -/
def shL (t b : Int) : List Nat := iL t ++ 47 :: iL b
theorem app47 {p q p' q' : List Nat} (h1 : 47 ∉ p) (h2 : 47 ∉ p') (h : p ++ 47 :: q = p' ++ 47 :: q') : p = p' ∧ q = q' := by
  have e1 := par_head (c := 47) (sep := []) (p := p) q h1
  have e2 := par_head (c := 47) (sep := []) (p := p') q' h2
  have h' : p ++ ([47] ++ q) = p' ++ ([47] ++ q') := h
  rw [h', e2] at e1
  cases e1
  exact ⟨rfl, rfl⟩
theorem shL_inj {t b t' b' : Int} (h : shL t b = shL t' b') : t = t' ∧ b = b' := by
  obtain ⟨h1, h2⟩ := app47 (iL_free t) (iL_free t') h
  exact ⟨iL_inj h1, iL_inj h2⟩
/-- a text that a share is written by -/
def Good (a : List Nat) (t b : Int) : Prop := a = shL t b ∧ 1 ≤ b ∧ Nat.gcd t.natAbs b.natAbs = 1 ∧ (TL.numL t.natAbs).length ≤ 60 ∧ (TL.numL b.natAbs).length ≤ 60
theorem Good.uniq {a : List Nat} {t b t' b' : Int} (h : Good a t b) (h' : Good a t' b') : t = t' ∧ b = b' := shL_inj (h.1.symm.trans h'.1)
/-! ## what the words do -/
def isDg (l : List Nat) : Bool := decide (l ≠ []) && l.all fun c => decide (48 ≤ c ∧ c ≤ 57)
theorem isDg_iff {l : List Nat} : isDg l = true ↔ l ≠ [] ∧ Dg l := by
  unfold isDg
  rw [Bool.and_eq_true, decide_eq_true_iff, List.all_eq_true]
  simp only [decide_eq_true_iff]
theorem ascii_S (l : List Nat) : Txt.isascii (S l) = l.all (fun c => decide (c < 128)) := by
  unfold Txt.isascii
  simp [S]
theorem digit_S {l : List Nat} (h : l.all (fun c => decide (c < 128)) = true) : Txt.isdigit (S l) = isDg l := by
  unfold Txt.isdigit isDg
  have e1 : decide ((S l).length > 0) = decide (l ≠ []) := by
    rw [S_len]
    refine decide_eq_decide.mpr ?_
    cases l <;> simp
  have e2 : (S l).cps.all Unicode.isDigit = l.all fun c => decide (48 ≤ c ∧ c ≤ 57) := by
    show l.toArray.all Unicode.isDigit = _
    rw [List.all_toArray]
    rw [Bool.eq_iff_iff, List.all_eq_true, List.all_eq_true]
    rw [List.all_eq_true] at h
    have d : ∀ c, c < 128 → Unicode.isDigit c = decide (48 ≤ c ∧ c ≤ 57) := by decide +kernel
    constructor
    · intro g c hc
      have := h c hc
      rw [← d c (by simpa using this)]
      exact g c hc
    · intro g c hc
      have := h c hc
      rw [d c (by simpa using this)]
      exact g c hc
  rw [← e1, ← e2]
theorem split47 (a : List Nat) : (47 ∉ a) ∨ ∃ p q, a = p ++ 47 :: q ∧ 47 ∉ p := by
  induction a with
  | nil => exact .inl (by simp)
  | cons c r ih =>
    by_cases h : c = 47
    · exact .inr ⟨[], r, by rw [h]; rfl, by simp⟩
    · rcases ih with i | ⟨p, q, e, n⟩
      · exact .inl (by simp [i]; omega)
      · exact .inr ⟨c :: p, q, by rw [e]; rfl, by simp [n]; omega⟩
theorem pre47 {l : List Nat} : TL.pre [47] l = true ↔ l.head? = some 47 := by
  unfold TL.pre
  cases l with
  | nil => simp
  | cons c r => simp
theorem drop_head (a : List Nat) (i : Nat) : (a.drop i).head? = a[i]? := by
  rw [List.head?_drop]
theorem find_none {a : List Nat} (h : 47 ∉ a) : Txt.find (S a) (S [47]) = -1 := by
  rcases find_whole (S a) (S [47]) with ⟨e, _⟩ | ⟨i, _, at_, _⟩
  · exact e
  · exfalso
    have := (TL.at_iff (x := S a) (y := S [47]) (by show [47] ≠ []; simp) i).mp at_
    have q := pre47.mp this
    rw [show (TL.tl (S a)) = a from rfl, drop_head] at q
    exact h (List.mem_of_getElem? q)
theorem find_at {p q : List Nat} (h : 47 ∉ p) : Txt.find (S (p ++ 47 :: q)) (S [47]) = (p.length : Int) := by
  have hit : (p ++ 47 :: q)[p.length]? = some 47 := by simp
  have iff : ∀ i, StrLaws.At (S (p ++ 47 :: q)) (S [47]) (S (p ++ 47 :: q)).length i ↔ (p ++ 47 :: q)[i]? = some 47 := fun i =>
    (TL.at_iff (x := S (p ++ 47 :: q)) (y := S [47]) (by show [47] ≠ []; simp) i).trans (pre47.trans (by rw [show (TL.tl (S (p ++ 47 :: q))) = p ++ 47 :: q from rfl, drop_head]))
  rcases find_whole (S (p ++ 47 :: q)) (S [47]) with ⟨_, no⟩ | ⟨i, e, at_, no⟩
  · exact absurd ((iff _).mpr hit) (no _)
  · rw [e]
    have g := (iff i).mp at_
    rcases Nat.lt_trichotomy i p.length with l | l | l
    · rw [List.getElem?_append_left l] at g
      exact absurd (List.mem_of_getElem? g) h
    · rw [l]
    · exact absurd ((iff _).mpr hit) (no _ l)
/-- without the minus ahead -/
def noM (a : List Nat) : List Nat := if a.head? = some 45 then a.tail else a
theorem rmp (a : List Nat) : Txt.removeprefix (S a) (S [45]) = S (noM a) := by
  rw [StrLaws.removeprefix_eq]
  have l1 : (S [45]).length = 1 := rfl
  have sb : Builtin.Str.subAt (S a) (S [45]) 0 = decide (a.take 1 = [45]) := by
    unfold Builtin.Str.subAt
    rw [l1]
    show (a.toArray.extract 0 (0 + 1) == #[45]) = _
    rw [List.extract_toArray]
    rw [Bool.eq_iff_iff, beq_iff_eq, decide_eq_true_iff]
    simp [List.extract_eq_take_drop]
  rw [sb, l1, S_len]
  unfold noM
  cases a with
  | nil => rfl
  | cons c r =>
    by_cases h : c = 45
    · subst h
      simp [S]
    · simp [h, S]
/-- a minus or none, digits -/
theorem int_of {l : List Nat} (h : l ≠ []) (d : Dg l) (n : l.length ≤ 60) : intText? (S l) = some ((NumText.digitsVal l : Nat) : Int) :=
  intText_digits (x := S l) d h (by rw [S_len]; omega)
theorem int_neg {l : List Nat} (h : l ≠ []) (d : Dg l) (n : l.length ≤ 60) : intText? (S (45 :: l)) = some (-((NumText.digitsVal l : Nat) : Int)) :=
  intText_neg (x := S (45 :: l)) (cs := l) rfl d h (by rw [S_len]; simp; omega)
theorem noM_iL (t : Int) : noM (iL t) = TL.numL t.natAbs := by
  unfold iL noM
  split
  · simp
  · rw [if_neg]
    intro z
    exact free45 t.natAbs (List.mem_of_mem_head? z)
theorem int_iL {t : Int} (n : (TL.numL t.natAbs).length ≤ 60) : intText? (S (iL t)) = some t := by
  unfold iL
  split
  · rw [int_neg (TL.numL_ne _) (dg_num _) n, TL.numL_val]
    congr 1; omega
  · rw [int_of (TL.numL_ne _) (dg_num _) n, TL.numL_val]
    congr 1; omega
/-- the program's parts: a top and a bottom that are numbers -/
theorem int_any {p : List Nat} (h : noM p ≠ []) (d : Dg (noM p)) (n : (noM p).length ≤ 60) : ∃ i : Int, intText? (S p) = some i ∧ i.natAbs = NumText.digitsVal (noM p) := by
  unfold noM at h d n ⊢
  split at h
  · rename_i z
    rw [if_pos z] at d n ⊢
    cases p with
    | nil => simp at z
    | cons c r =>
      have hc : c = 45 := by simpa using z
      subst hc
      refine ⟨_, int_neg h d n, by simp⟩
  · rename_i z
    rw [if_neg z] at d n ⊢
    exact ⟨_, int_of h d n, by simp⟩
theorem val_lt : ∀ (k : Nat) (l : List Nat), l.length = k → Dg l → NumText.digitsVal l < 10 ^ k := by
  intro k
  induction k with
  | zero => intro l hl _; rw [List.eq_nil_of_length_eq_zero hl]; decide
  | succ k ih =>
    intro l hl d
    have hn : l ≠ [] := by intro z; rw [z] at hl; cases hl
    obtain ⟨l', c, rfl⟩ : ∃ l' c, l = l' ++ [c] := ⟨l.dropLast, l.getLast hn, (List.dropLast_concat_getLast hn).symm⟩
    have h1 := ih l' (by simp at hl; omega) fun x hx => d x (by simp [hx])
    have h2 := d c (by simp)
    rw [val_snoc, Nat.pow_succ]
    omega
end Tx
set_option Elab.async false
set_option linter.all false
set_option autoImplicit false
set_option maxRecDepth 100000
set_option maxHeartbeats 4000000
namespace My
open PySem PySem.Spec PyProof.Rows L2 U
/-! my own steps: rows of tactics, tried from above -/
local macro_rules | `(tactic| tm_at "lk") => `(tactic| first | with_reducible assumption | (with_reducible refine' Kp.get0 ?k1 ?k2; (case k1 => with_reducible assumption); (case k2 => tm_at "lk")) | (with_reducible refine' Kp.get1 ?k1 ?k3 ?k2; (case k1 => with_reducible assumption); (case k3 => tm_at "ne"); (case k2 => tm_at "lk")) | fail)
local macro_rules | `(tactic| tm_at "lp") => `(tactic| first | with_reducible assumption | (with_reducible refine' Pool.kp0 ?k1 ?k2; (case k1 => with_reducible assumption); (case k2 => tm_at "lp")) | (with_reducible refine' Pool.kp1 ?k1 ?k3 ?k2; (case k1 => with_reducible assumption); (case k3 => tm_at "ne"); (case k2 => tm_at "lp")) | fail)
local macro_rules | `(tactic| tm_at "ls") => `(tactic| first | with_reducible assumption | (with_reducible refine' Scr.kp0 ?k1 ?k2; (case k1 => with_reducible assumption); (case k2 => tm_at "ls")) | (with_reducible refine' Scr.kp1 ?k1 ?k3 ?k4 ?k2; (case k1 => with_reducible assumption); (case k3 => with_reducible assumption); (case k4 => tm_at "ls"); (case k2 => tm_at "ls")) | fail)
local macro_rules | `(tactic| tm_at "ne") => `(tactic| first | with_reducible assumption | (with_reducible refine' Ne.symm ?k1; with_reducible assumption) | (with_reducible refine' ne_new ?k1 ?k2; (case k1 => with_reducible assumption); (case k2 => tm_at "lk")) | (with_reducible refine' ne_new' ?k1 ?k2; (case k1 => with_reducible assumption); (case k2 => tm_at "lk")) | (with_reducible refine' Pool.ne ?k1 ?k2; (case k1 => with_reducible assumption); (case k2 => tm_at "lp")) | (with_reducible refine' Ne.symm (Pool.ne ?k1 ?k2); (case k1 => with_reducible assumption); (case k2 => tm_at "lp")) | fail)
local macro_rules | `(tactic| tm_at "kc") => `(tactic| first | with_reducible assumption | with_reducible exact Kp.refl | (with_reducible refine' Kp.trans ?k1 (Kp.of0 ?k2); (case k2 => with_reducible assumption); (case k1 => tm_at "kc")) | (with_reducible refine' Kp.trans ?k1 ?k2; (case k2 => with_reducible assumption); (case k1 => tm_at "kc")) | (with_reducible refine' Kp.low' ?k1 ?k2 ?k3 ?k4; (case k2 => with_reducible assumption); (case k3 => with_reducible assumption); (case k1 => tm_at "kc"); (case k4 => tm_at "kc")) | fail)
local macro_rules | `(tactic| tm_at "sq") => `(tactic| first | (with_reducible refine' sql ?k9; (case k9 => tm_at "lk")) | (with_reducible refine' Scr.sq ?k9; (case k9 => tm_at "ls")) | fail)
local macro_rules | `(tactic| tm_at "sqt") => `(tactic| first | (with_reducible refine' sqt ?k9; (case k9 => tm_at "lk")) | fail)
local macro_rules | `(tactic| tm_at "bt") => `(tactic| first | with_reducible assumption | (with_reducible refine' Bt.mul ?k1 ?k2; (case k1 => tm_at "bt"); (case k2 => tm_at "bt")) | (with_reducible refine' Bt.addM ?k1 ?k2; (case k1 => tm_at "bt"); (case k2 => tm_at "bt")) | (with_reducible refine' Bt.subM ?k1 ?k2; (case k1 => tm_at "bt"); (case k2 => tm_at "bt")) | (with_reducible refine' Bt.neg ?k1; (case k1 => tm_at "bt")) | fail)
local macro_rules | `(tactic| tm_at "bm") => `(tactic| first | with_reducible assumption | (with_reducible refine' Bt.mono ?k1 ?k2; (case k1 => with_reducible assumption); (case k2 => k_dflt decide)) | fail)
local macro_rules | `(tactic| tm_at "side") => `(tactic| first | with_reducible assumption | (with_reducible refine' Bt.cmul ?k1 ?k2 ?k3; (case k1 => tm_at "bt"); (case k2 => tm_at "bt"); (case k3 => k_dflt decide)) | (with_reducible refine cmul_of ?k1; (case k1 => omega)) | (with_reducible refine cpow_of ?k1; (case k1 => omega)) | (with_reducible refine cdivw_of ?k1; (case k1 => omega)) | (with_reducible refine cdivw_big ?k1; (case k1 => omega)) | (with_reducible refine cmulx_of ?k1; (case k1 => omega)) | omega | fail)
local macro_rules | `(tactic| tm_at "step") => `(tactic| first
  | with_reducible refine u_op ?_
  | (with_reducible refine' u_var ?k1 ?_; (case k1 => k_dflt rfl))
  | with_reducible refine u_c ?_
  | with_reducible refine u_I0 ?_
  | with_reducible refine u_seq ?_
  | with_reducible refine u_asg ?_
  | with_reducible refine g_name ?_
  | with_reducible refine u_cb ?_
  | with_reducible refine u_cons ?_
  | with_reducible refine u_nil ?_
  | (with_reducible refine' u_pow ?k1 ?k2 ?_; (case k1 => k_dflt (tm_at "side")); (case k2 => (conv => lhs; simp only [Int.reduceToNat, Int.reducePow]) <;> rfl))
  | (with_reducible refine' u_I ?k1 ?_; (case k1 => k_dflt (tm_at "side")))
  | with_reducible refine u_int1 ?_
  | with_reducible refine u_intB ?_
  | with_reducible refine u_if ?_
  | with_reducible refine u_test ?_
  | with_reducible refine u_tb ?_
  | with_reducible refine u_tB ?_
  | with_reducible refine u_eqI ?_
  | with_reducible refine u_neI ?_
  | with_reducible refine u_eqB ?_
  | with_reducible refine u_and ?_
  | with_reducible refine u_or ?_
  | with_reducible refine u_not ?_
  | with_reducible refine u_andV ?_
  | with_reducible refine u_orV ?_
  | with_reducible refine u_notV ?_
  | with_reducible refine br_t ?_
  | with_reducible refine br_f ?_
  | with_reducible refine br_nt ?_
  | with_reducible refine br_nf ?_
  | with_reducible refine br_n ?_
  | with_reducible refine u_ret ?_
  | with_reducible refine u_next ?_
  | with_reducible refine u_drop ?_
  | with_reducible refine u_un ?_
  | with_reducible refine u_U ?_
  | with_reducible refine u_call ?_
  | with_reducible refine u_fldN ?_
  | with_reducible refine g_sub ?_
  | with_reducible refine g_cons ?_
  | with_reducible refine g_nil ?_
  | with_reducible refine u_tpar ?_
  | (with_reducible refine u_absL ?_; intro m_ h1_ h2_)
  | (with_reducible refine u_maxL ?_; intro m_ h1_ h2_ h3_)
  | (with_reducible refine u_minL ?_; intro m_ h1_ h2_ h3_)
  | with_reducible refine u_gcd ?_
  | with_reducible refine u_isi_ii ?_
  | with_reducible refine u_isi_ib ?_
  | with_reducible refine u_isi_bb ?_
  | with_reducible refine u_tupN ?_
  | with_reducible refine u_lstN ?_
  | (with_reducible refine' u_ixL ?k1 ?k2 ?_; (case k1 => tm_at "sq"); (case k2 => first | with_reducible assumption | k_dflt rfl))
  | (with_reducible refine' u_ixT ?k1 ?k2 ?_; (case k1 => tm_at "sqt"); (case k2 => k_dflt rfl))
  | (with_reducible refine' g_tup ?k1 ?k2 ?_; (case k1 => tm_at "sqt"); (case k2 => k_dflt rfl))
  | (with_reducible refine' u_lenL ?k1 ?_; (case k1 => tm_at "sq"))
  | (with_reducible refine' u_lenT ?k1 ?_; (case k1 => tm_at "sqt"))
  | with_reducible refine u_for ?_
  | with_reducible refine u_iL ?_
  | with_reducible refine u_iT ?_
  | with_reducible refine u_r1 ?_
  | with_reducible refine u_r2 ?_
  | (with_reducible refine' u_iLq ?k1 ?_; (case k1 => tm_at "sq"))
  | (with_reducible refine' u_iTq ?k1 ?_; (case k1 => tm_at "sqt"))
  | (with_reducible refine' u_r1q ?k1 ?_; (case k1 => (constructor <;> omega)))
  | (with_reducible refine' u_r2q ?k1 ?_; (case k1 => (refine ⟨?_, ?_, ?_, ?_⟩ <;> omega)))
  | with_reducible refine u_lc ?_
  | with_reducible refine u_yes ?_
  | (with_reducible refine endQ ?k1 ?_; (case k1 => k_dflt rfl))
  | with_reducible refine u_meth ?_
  | with_reducible refine u_callS ?_
  | with_reducible refine u_bm ?_
  | (with_reducible refine' bm_list ?k1 ?_; (case k1 => tm_at "lk"))
  | (with_reducible refine' u_append ?k1 ?k2 ?_; (case k1 => tm_at "lk"); (case k2 => omega); intro H_ hk_ ho_)
  | (with_reducible refine' appE ?k1 ?k2 ?_; (case k1 => tm_at "lk"); (case k2 => omega); intro H_ hk_ ho_)
  | with_reducible refine u_sl ?_
  | with_reducible refine u_noPart ?_
  | with_reducible refine u_part ?_
  | with_reducible refine u_intq ?_
  | (with_reducible refine' u_slL ?k1 ?_; (case k1 => tm_at "sq"); intro p_ H_ hn_ hk_ ho_)
  | (with_reducible refine' n_tup ?k1 ?_; (case k1 => k_dflt (exact Nat.le_of_ble_eq_true rfl)); intro p_ H_ hn_ hk_ ho_)
  | (with_reducible refine' n_lst ?k1 ?_; (case k1 => k_dflt (exact Nat.le_of_ble_eq_true rfl)); intro p_ H_ hn_ hk_ ho_)
  | (with_reducible refine' s_list ?k1 ?k2 ?_; (case k1 => tm_at "lk"); (case k2 => k_dflt rfl); intro H_ hk_ ho_)
  | (with_reducible refine br_d ?_ ?_ <;> intro hc_) | fail)
local macro_rules | `(tactic| tm_at "run") => `(tactic| repeat' tm_at "step")
local macro_rules | `(tactic| tm_at "go") => `(tactic| ((try dsimp only [cxOf, Cx.nox, Cx.wish]); tm_at "run"))

/-! ## shares as objects -/
def shF (t b : Int) : List (Str × V) := [("top", .int t), ("bottom", .int b)]
theorem lk_hit {k : Str} {v : V} {r : List (Str × V)} : List.lookup k ((k, v) :: r) = some v := by
  simp only [List.lookup, beq_self_eq_true]
theorem lk_miss {k g : Str} {v : V} {r : List (Str × V)} (h : (k == g) = false) : List.lookup k ((g, v) :: r) = List.lookup k r := by
  simp only [List.lookup, h]
theorem shF_top (t b : Int) : (shF t b).lookup ("top" : Str) = some (.int t) := lk_hit
theorem sh_nb : (("bottom" : Str) == "top") = false := by decide +kernel
theorem shF_bottom (t b : Int) : (shF t b).lookup ("bottom" : Str) = some (.int b) := (lk_miss sh_nb).trans lk_hit
theorem shF_put (t b : Int) : putF "bottom" (.int b) (putF "top" (.int t) []) = shF t b := by
  have n : ¬ (("top" : Str) = "bottom") := by decide +kernel
  show (if ("top" : Str) = "bottom" then _ else (("top" : Str), V.int t) :: putF "bottom" (.int b) []) = _
  rw [if_neg n]
  rfl
def ShAt (C : Addr) (H : Hp) (p : Addr) (t b : Int) : Prop := ∃ dx, H p = some (.ins C dx (shF t b))
theorem ShAt.kp0 {C : Addr} {H H' : Hp} {p : Addr} {t b : Int} (k : Kp [] H H') (h : ShAt C H p t b) : ShAt C H' p t b := by
  obtain ⟨dx, e⟩ := h
  exact ⟨dx, k.get0 e⟩
theorem ShAt.kp1 {C : Addr} {H H' : Hp} {p q : Addr} {t b : Int} (k : Kp [q] H H') (n : p ≠ q) (h : ShAt C H p t b) : ShAt C H' p t b := by
  obtain ⟨dx, e⟩ := h
  exact ⟨dx, k.get1 n e⟩
local macro_rules | `(tactic| tm_at "sh") => `(tactic| first | with_reducible assumption | (with_reducible refine' ShAt.kp0 ?k1 ?k2; (case k1 => with_reducible assumption); (case k2 => tm_at "sh")) | (with_reducible refine' ShAt.kp1 ?k1 ?k3 ?k2; (case k1 => with_reducible assumption); (case k3 => tm_at "ne"); (case k2 => tm_at "sh")) | fail)
/-- what the text's top has written of Share -/
structure ShC (K : PySem.W.Frag) (mg : Str → Option Value) (C : Addr) : Prop where
  g : mg "Share" = some (.ref C)
  cl : Cls K C
  nt : NoAttr K C "top"
  nb : NoAttr K C "bottom"
  i : C8.InsC K C
  sf : PySem.W.selfFirst K C = true
  ty : PySem.W.typeIn K (.ref C) = some (.type "type")
  s_int : PySem.W.subIn K (.type "int") (.ref C) = some false
  s_bool : PySem.W.subIn K (.type "bool") (.ref C) = some false
  s_none : PySem.W.subIn K (.type "NoneType") (.ref C) = some false
  s_str : PySem.W.subIn K (.type "str") (.ref C) = some false
  s_tuple : PySem.W.subIn K (.type "tuple") (.ref C) = some false
  s_list : PySem.W.subIn K (.type "list") (.ref C) = some false
section
variable {K : PySem.W.Frag} {mg : Str → Option Value} {C : Addr} {H : Hp} {Q : VK} {p : Addr} {t b : Int}
theorem fld_top (S : ShC K mg C) (h : ShAt C H p t b) (q : Q (.int t) H) : FldOf K "top" (.ref p) H Q := by
  obtain ⟨dx, e⟩ := h
  exact fld_of S.cl S.nt e (shF_top t b) q
theorem fld_bottom (S : ShC K mg C) (h : ShAt C H p t b) (q : Q (.int b) H) : FldOf K "bottom" (.ref p) H Q := by
  obtain ⟨dx, e⟩ := h
  exact fld_of S.cl S.nb e (shF_bottom t b) q
theorem ty_share (S : ShC K mg C) (h : ShAt C H p t b) : TyX K H (.ref p) (.ref C) := by
  obtain ⟨dx, e⟩ := h
  exact .base (.ins e S.cl S.i.ha S.i.hn S.i.htk S.i.hm)
theorem isi_share (S : ShC K mg C) (h : ShAt C H p t b) (q : Q (.bl true) H) : rIsi K [.ref p, .ref C] H Q := ⟨_, _, _, _, true, rfl, .own C, ty_share S h, kit_self, q⟩
theorem isi_other (S : ShC K mg C) {x : V} {T : String} (ty : TyX K H x (.type T)) (s : PySem.W.subIn K (.type T) (.ref C) = some false) (q : Q (.bl false) H) : rIsi K [x, .ref C] H Q := ⟨_, _, _, _, false, rfl, .own C, ty, kit_own S.cl.hd S.ty rfl s, q⟩
end
local macro_rules | `(tactic| tm_at "step") => `(tactic| first | (with_reducible refine' fld_top (by assumption) ?k1 ?_; (case k1 => tm_at "sh")) | fail)
local macro_rules | `(tactic| tm_at "step") => `(tactic| first | (with_reducible refine' fld_bottom (by assumption) ?k1 ?_; (case k1 => tm_at "sh")) | fail)
local macro_rules | `(tactic| tm_at "step") => `(tactic| first | (with_reducible refine' isi_share (by assumption) ?k1 ?_; (case k1 => tm_at "sh")) | fail)
local macro_rules | `(tactic| tm_at "step") => `(tactic| first | with_reducible refine u_newI ?_ | fail)
local macro_rules | `(tactic| tm_at "step") => `(tactic| first | with_reducible refine u_newK ?_ | fail)
local macro_rules | `(tactic| tm_at "step") => `(tactic| first | with_reducible refine newK rfl rfl ?_ | fail)
local macro_rules | `(tactic| tm_at "step") => `(tactic| first | with_reducible refine u_sfld ?_ | fail)
/-- Share(top, bottom): refused, or the lowest terms -/
def spInit (C CB : Addr) : Sp := fun vs H Q E => ∃ (p dx : Addr) (u d : Int), vs = [.ref p, .int u, .int d] ∧ H p = some (.ins C dx []) ∧ Bt 8500 d ∧ (d < 1 → E (.ref CB) none H) ∧
  (1 ≤ d → ∀ H' t b, Kp [p] H H' → ShAt C H' p t b → Fr.Fr t b u d → Q .non H')
theorem k_share {C CB : Addr} {u d : Int} {H : Hp} {Q : VK} {E : XK} (hd : 1 ≤ d) (hb : Bt 8500 d) (k : ∀ p H' t b, H p = none → Kp [] H H' → ShAt C H' p t b → Fr.Fr t b u d → Q (.ref p) H') : NewI C (spInit C CB) ([.int u, .int d] ++ []) H Q E := by
  intro x dx nx ndx ne
  exact ⟨x, dx, u, d, rfl, upd_same, hb, fun h => absurd h (by omega), fun _ H' t b kp sh fr => ⟨rfl, k x H' t b nx (kp.inst nx ndx) sh fr⟩⟩
theorem k_share1 {C CB : Addr} {u : Int} {H : Hp} {Q : VK} {E : XK} (k : ∀ p H' t b, H p = none → Kp [] H H' → ShAt C H' p t b → Fr.Fr t b u 1 → Q (.ref p) H') : NewI C (spInit C CB) ([.int u] ++ [.int 1]) H Q E := by
  intro x dx nx ndx ne
  exact ⟨x, dx, u, 1, rfl, upd_same, by unfold Bt; decide +kernel, fun h => absurd h (by omega), fun _ H' t b kp sh fr => ⟨rfl, k x H' t b nx (kp.inst nx ndx) sh fr⟩⟩
theorem k_shareK {C CB : Addr} {u d : Int} {H : Hp} {Q : VK} {E : XK} (hd : 1 ≤ d) (hb : Bt 8500 d) (k : ∀ p H' t b, H p = none → Kp [] H H' → ShAt C H' p t b → Fr.Fr t b u d → Q (.ref p) H') : NewI C (spInit C CB) ([.int u] ++ [.int d]) H Q E := k_share hd hb k
theorem k_shareBad {C CB : Addr} {u d : Int} {H : Hp} {Q : VK} {E : XK} (hd : d < 1) (hb : Bt 8500 d) (k : ∀ H', Kp [] H H' → E (.ref CB) none H') : NewI C (spInit C CB) ([.int u] ++ [.int d]) H Q E := by
  intro x dx nx ndx ne
  exact ⟨x, dx, u, d, rfl, upd_same, hb, fun _ => k _ (Kp.inst nx ndx .refl), fun h => absurd h (by omega)⟩
def spAdd (C : Addr) (g : Int → Int → Int → Int → Int) : Sp := fun vs H Q _ => ∃ (p q : Addr) (t b t' b' : Int), vs = [.ref p, .ref q] ∧ ShAt C H p t b ∧ ShAt C H q t' b' ∧ 1 ≤ b ∧ 1 ≤ b' ∧ Bt 4000 t ∧ Bt 4000 b ∧ Bt 4000 t' ∧ Bt 4000 b' ∧
  ∀ r H' x y, H r = none → Kp [] H H' → ShAt C H' r x y → Fr.Fr x y (g t b t' b') (b * b') → Q (.ref r) H'
def gAdd (t b t' b' : Int) : Int := t * b' + t' * b
def gMul (t b t' b' : Int) : Int := t * t'
def gSub' (t b t' b' : Int) : Int := t * b' - t' * b
theorem k_own {C : Addr} {g : Int → Int → Int → Int → Int} {p q : Addr} {t b t' b' : Int} {H : Hp} {Q : VK} (h1 : ShAt C H p t b) (h2 : ShAt C H q t' b') (hb : 1 ≤ b) (hb' : 1 ≤ b') (s1 : Bt 4000 t) (s2 : Bt 4000 b) (s3 : Bt 4000 t') (s4 : Bt 4000 b')
    (k : ∀ r H' x y, H r = none → Kp [] H H' → ShAt C H' r x y → Fr.Fr x y (g t b t' b') (b * b') → Q (.ref r) H') : rOwn C (spAdd C g) E0 (.ref p) (.ref q) H Q := by
  obtain ⟨dx, e1⟩ := id h1
  obtain ⟨dy, e2⟩ := id h2
  exact ⟨p, q, dx, dy, _, _, rfl, rfl, e1, e2, p, q, t, b, t', b', rfl, h1, h2, hb, hb', s1, s2, s3, s4, k⟩
/-- == of a share with anything -/
def spEq (K : PySem.W.Frag) (C : Addr) : Sp := fun vs H Q _ => ∃ (p : Addr) (y : V) (t b : Int), vs = [.ref p, y] ∧ ShAt C H p t b ∧
  ((∃ q t' b', y = .ref q ∧ ShAt C H q t' b' ∧ Q (.bl (decide (t = t') && decide (b = b'))) H) ∨ (∃ T, TyX K H y (.type T) ∧ PySem.W.subIn K (.type T) (.ref C) = some false ∧ Q (.bl false) H))
section
variable {K : PySem.W.Frag} {mg : Str → Option Value} {C : Addr} {H : Hp} {Q : VK} {p q : Addr} {t b t' b' : Int}
theorem k_eq (S : ShC K mg C) (h1 : ShAt C H p t b) (h2 : ShAt C H q t' b') (k : Q (.bl (decide (t = t') && decide (b = b'))) H) : rEqOwn K C (spEq K C) E0 (.ref p) (.ref q) H Q := by
  obtain ⟨dx, e1⟩ := id h1
  exact ⟨p, dx, _, _, rfl, e1, ty_share S h2, notFirst_self, p, _, t, b, rfl, h1, .inl ⟨q, t', b', rfl, h2, k⟩⟩
theorem k_eqNo {y : V} {T : String} (h1 : ShAt C H p t b) (ty : TyX K H y (.type T)) (s : PySem.W.subIn K (.type T) (.ref C) = some false) (k : Q (.bl false) H) : rEqOwn K C (spEq K C) E0 (.ref p) y H Q := by
  obtain ⟨dx, e1⟩ := id h1
  exact ⟨p, dx, _, _, rfl, e1, ty, notFirst_of s, p, _, t, b, rfl, h1, .inr ⟨T, ty, s, k⟩⟩
end
/-- the def __init__ and how it is called -/
def NcSh (P : Program) (w : World) (K : PySem.W.Frag) (mg : Str → Option Value) (base : Heap) (k : Nat) (C CB : Addr) : Prop :=
  ∃ f fd, Mk K C f ∧ FnOk P w K mg base (L2.CX P w) k f fd ["self", "top", "bottom"] (spInit C CB) ∧ mg "Share" = some (.ref C) ∧ Binds K fd ["self", "top", "bottom"] [] ∧ (∃ ds, Vals [V.int 1] ds ∧ Binds K fd ["self", "top", "bottom"] ds) ∧
    ∃ its : List Value, KBn K fd ["self", "top", "bottom"] 2 ["bottom"] (fun us ws => us ++ ws) (fun vs zs => vs ++ zs)
section
variable {X : Cx} {k : Nat} {C CB : Addr} {p pos : Pos} {e : Expr} {es : List Expr} {t tk : TA} {E : L2.St → XK} {kws : List Keyword}
theorem pe_sh (F : NcSh X.prog X.w X.K X.mg X.base k C CB) (pass : ∀ σ, PassesAt (L2.CX X.prog X.w) X σ (E σ)) (room : Room (k + 1) X.A)
    (ha : PA X (e :: es) t) (hg : Gl X "Share" := by rfl)
    (he : starEach (e :: es) X.env = (false, eval e X.env) :: starEach es X.env := by rfl) (hpl : (backTo pos (starEach es X.env)).any (·.1) = false := by rfl) :
    PE X (.Call (.Name "Share" p) (e :: es) [] pos) (tNew C (spInit C CB) [] E t) := by
  obtain ⟨f, fd, mk, ok, g, b, _, _⟩ := F
  exact pe_new mk ok pass room g b .nil ha hg (by decide) he hpl
theorem pe_sh1 (F : NcSh X.prog X.w X.K X.mg X.base k C CB) (pass : ∀ σ, PassesAt (L2.CX X.prog X.w) X σ (E σ)) (room : Room (k + 1) X.A)
    (ha : PA X (e :: es) t) (hg : Gl X "Share" := by rfl)
    (he : starEach (e :: es) X.env = (false, eval e X.env) :: starEach es X.env := by rfl) (hpl : (backTo pos (starEach es X.env)).any (·.1) = false := by rfl) :
    PE X (.Call (.Name "Share" p) (e :: es) [] pos) (tNew C (spInit C CB) [.int 1] E t) := by
  obtain ⟨f, fd, mk, ok, g, _, ⟨ds, v, b⟩, _⟩ := F
  exact pe_new mk ok pass room g b v ha hg (by decide) he hpl
theorem pe_shK (F : NcSh X.prog X.w X.K X.mg X.base k C CB) (pass : ∀ σ, PassesAt (L2.CX X.prog X.w) X σ (E σ)) (room : Room (k + 1) X.A)
    (ha : PA X (e :: es) t) (hkw : PK X kws tk) (hg : Gl X "Share" := by rfl) (hall : (backToKw pos (keywordEach kws X.env)).all (·.1.isSome) = true := by rfl) (hks : (backToKw pos (keywordEach kws X.env)).filterMap (·.1) = (["bottom"] : List Str) := by rfl)
    (he : starEach (e :: es) X.env = (false, eval e X.env) :: starEach es X.env := by rfl)
    (hpl : ((backTo pos (starEach (e :: es) X.env)).any (·.1) || (backToKw pos (keywordEach kws X.env)).any (·.1.isNone)) = false := by rfl) :
    PE X (.Call (.Name "Share" p) (e :: es) kws pos) (tNewK C 1 1 (spInit C CB) (fun vs zs => vs ++ zs) E t tk) := by
  obtain ⟨f, fd, mk, ok, g, _, _, its, b⟩ := F
  exact pe_newK mk ok pass room g b ha hkw hg hall hks (by decide) he hpl (fun _ _ _ => rfl)
end

theorem k_shareBad2 {C CB : Addr} {u d : Int} {H : Hp} {Q : VK} {E : XK} (hd : d < 1) (hb : Bt 8500 d) (k : ∀ H', Kp [] H H' → E (.ref CB) none H') : NewI C (spInit C CB) ([.int u, .int d] ++ []) H Q E := k_shareBad hd hb k

theorem k_opA {C : Addr} {n m : Nat} {p q : Addr} {t b t' b' : Int} {H : Hp} {Q : VK} (h1 : ShAt C H p t b) (h2 : ShAt C H q t' b') (hb : 1 ≤ b) (hb' : 1 ≤ b') (s1 : Bt n t) (s2 : Bt n b) (s3 : Bt m t') (s4 : Bt m b') (ln : n ≤ 4000) (lm : m ≤ 4000)
    (k : ∀ r H' x y, H r = none → Kp [] H H' → ShAt C H' r x y → Fr.Fr x y (t * b' + t' * b) (b * b') → 1 ≤ y → Bt (n + m + 1) x → Bt (n + m + 1) y → Q (.ref r) H') : rOwn C (spAdd C gAdd) E0 (.ref p) (.ref q) H Q := by
  refine k_own h1 h2 hb hb' (s1.mono ln) (s2.mono ln) (s3.mono lm) (s4.mono lm) fun r H' x y hn hk sh fr => ?_
  have hd : 1 ≤ b * b' := Int.mul_pos hb hb'
  have w1 : Bt (n + m + 1) (t * b' + t' * b) := (s1.mul s4).add (Nat.add_comm m n ▸ s3.mul s2)
  have w2 : Bt (n + m + 1) (b * b') := (s2.mul s4).mono (Nat.le_succ _)
  exact k r H' x y hn hk sh fr fr.1 (w1.le (fr.absle hd)) (w2.le (by have := fr.le hd; have := fr.1; omega))
theorem k_opS {C : Addr} {n m : Nat} {p q : Addr} {t b t' b' : Int} {H : Hp} {Q : VK} (h1 : ShAt C H p t b) (h2 : ShAt C H q t' b') (hb : 1 ≤ b) (hb' : 1 ≤ b') (s1 : Bt n t) (s2 : Bt n b) (s3 : Bt m t') (s4 : Bt m b') (ln : n ≤ 4000) (lm : m ≤ 4000)
    (k : ∀ r H' x y, H r = none → Kp [] H H' → ShAt C H' r x y → Fr.Fr x y (t * b' - t' * b) (b * b') → 1 ≤ y → Bt (n + m + 1) x → Bt (n + m + 1) y → Q (.ref r) H') : rOwn C (spAdd C gSub') E0 (.ref p) (.ref q) H Q := by
  refine k_own h1 h2 hb hb' (s1.mono ln) (s2.mono ln) (s3.mono lm) (s4.mono lm) fun r H' x y hn hk sh fr => ?_
  have hd : 1 ≤ b * b' := Int.mul_pos hb hb'
  have w1 : Bt (n + m + 1) (t * b' - t' * b) := (s1.mul s4).sub (Nat.add_comm m n ▸ s3.mul s2)
  have w2 : Bt (n + m + 1) (b * b') := (s2.mul s4).mono (Nat.le_succ _)
  exact k r H' x y hn hk sh fr fr.1 (w1.le (fr.absle hd)) (w2.le (by have := fr.le hd; have := fr.1; omega))
local macro_rules | `(tactic| tm_at "b1") => `(tactic| first | with_reducible assumption | omega)
local macro_rules | `(tactic| tm_at "step") => `(tactic| first | (with_reducible refine' k_opA ?k1 ?k2 ?k3 ?k4 ?k5 ?k6 ?k7 ?k8 ?k9 ?k10 ?_; (case k1 => tm_at "sh"); (case k2 => tm_at "sh"); (case k3 => tm_at "b1"); (case k4 => tm_at "b1"); (case k5 => with_reducible assumption); (case k6 => with_reducible assumption); (case k7 => with_reducible assumption); (case k8 => with_reducible assumption); (case k9 => k_dflt decide); (case k10 => k_dflt decide); intro r_ H_ x_ y_ hn_ hk_ hs_ hf_ hy_ hbx_ hby_) | fail)
local macro_rules | `(tactic| tm_at "step") => `(tactic| first | (with_reducible refine' k_opS ?k1 ?k2 ?k3 ?k4 ?k5 ?k6 ?k7 ?k8 ?k9 ?k10 ?_; (case k1 => tm_at "sh"); (case k2 => tm_at "sh"); (case k3 => tm_at "b1"); (case k4 => tm_at "b1"); (case k5 => with_reducible assumption); (case k6 => with_reducible assumption); (case k7 => with_reducible assumption); (case k8 => with_reducible assumption); (case k9 => k_dflt decide); (case k10 => k_dflt decide); intro r_ H_ x_ y_ hn_ hk_ hs_ hf_ hy_ hbx_ hby_) | fail)

theorem shF_no (t b : Int) {m : Str} (h1 : (m == "top") = false) (h2 : (m == "bottom") = false) : (shF t b).lookup m = none := (lk_miss h1).trans ((lk_miss h2).trans rfl)
theorem meth_sh {C : Addr} {H : Hp} {p : Addr} {t b : Int} {m : Str} {R : Prop} (h : ShAt C H p t b) (h1 : (m == "top") = false) (h2 : (m == "bottom") = false) (q : R) : MethQ C m (.ref p) H R := by
  obtain ⟨dx, e⟩ := h
  exact ⟨p, dx, _, rfl, e, shF_no t b h1 h2, q⟩
theorem k_opM {C : Addr} {n m : Nat} {p q : Addr} {t b t' b' : Int} {H : Hp} {Q : VK} (h1 : ShAt C H p t b) (h2 : ShAt C H q t' b') (hb : 1 ≤ b) (hb' : 1 ≤ b') (s1 : Bt n t) (s2 : Bt n b) (s3 : Bt m t') (s4 : Bt m b') (ln : n ≤ 4000) (lm : m ≤ 4000)
    (k : ∀ r H' x y, H r = none → Kp [] H H' → ShAt C H' r x y → Fr.Fr x y (t * t') (b * b') → 1 ≤ y → Bt (n + m + 1) x → Bt (n + m + 1) y → Q (.ref r) H') : rOwn C (spAdd C gMul) E0 (.ref p) (.ref q) H Q := by
  refine k_own h1 h2 hb hb' (s1.mono ln) (s2.mono ln) (s3.mono lm) (s4.mono lm) fun r H' x y hn hk sh fr => ?_
  have hd : 1 ≤ b * b' := Int.mul_pos hb hb'
  have w1 : Bt (n + m + 1) (t * t') := (s1.mul s3).mono (Nat.le_succ _)
  have w2 : Bt (n + m + 1) (b * b') := (s2.mul s4).mono (Nat.le_succ _)
  exact k r H' x y hn hk sh fr fr.1 (w1.le (fr.absle hd)) (w2.le (by have := fr.le hd; have := fr.1; omega))
local macro_rules | `(tactic| tm_at "step") => `(tactic| first | (with_reducible refine' k_opM ?k1 ?k2 ?k3 ?k4 ?k5 ?k6 ?k7 ?k8 ?k9 ?k10 ?_; (case k1 => tm_at "sh"); (case k2 => tm_at "sh"); (case k3 => tm_at "b1"); (case k4 => tm_at "b1"); (case k5 => with_reducible assumption); (case k6 => with_reducible assumption); (case k7 => with_reducible assumption); (case k8 => with_reducible assumption); (case k9 => k_dflt decide); (case k10 => k_dflt decide); intro r_ H_ x_ y_ hn_ hk_ hs_ hf_ hy_ hbx_ hby_) | fail)

def top (i : Nat) : Stmt := PySem.Challenge.pw_oddskept_k02_share_texts.main.body.getD i (.Pass ⟨0, 0, 0, 0⟩)
abbrev s_l_int : Stmt := top 18
theorem sc_l_int : FnScope ["x"] ["x"] (defScope s_l_int) := ⟨rfl, rfl, rfl, by decide +kernel, rfl, by decide +kernel, by decide +kernel⟩
abbrev s_l_pool : Stmt := top 19
theorem sc_l_pool : FnScope ["script", "at", "cell", "kind"] ["script", "at"] (defScope s_l_pool) := ⟨rfl, rfl, rfl, by decide +kernel, rfl, by decide +kernel, by decide +kernel⟩
abbrev s_l_stirred : Stmt := top 20
theorem sc_l_stirred : FnScope ["script", "at", "pool", "cell"] ["script", "at"] (defScope s_l_stirred) := ⟨rfl, rfl, rfl, by decide +kernel, rfl, by decide +kernel, by decide +kernel⟩
abbrev s_l_draw : Stmt := top 21
theorem sc_l_draw : FnScope ["pool", "many", "got", "x"] ["pool", "many"] (defScope s_l_draw) := ⟨rfl, rfl, rfl, by decide +kernel, rfl, by decide +kernel, by decide +kernel⟩
abbrev s_l_size : Stmt := top 22
theorem sc_l_size : FnScope ["pool", "kind", "total", "k"] ["pool"] (defScope s_l_size) := ⟨rfl, rfl, rfl, by decide +kernel, rfl, by decide +kernel, by decide +kernel⟩
abbrev s_l_fraction : Stmt := top 23
theorem sc_l_fraction : FnScope ["pool", "up", "down", "k"] ["pool"] (defScope s_l_fraction) := ⟨rfl, rfl, rfl, by decide +kernel, rfl, by decide +kernel, by decide +kernel⟩
abbrev s_law : Stmt := top 35
theorem sc_law : FnScope ["script", "up", "down", "low", "text", "second", "one", "product", "due", "k", "again"] ["script"] (defScope s_law) := ⟨rfl, rfl, rfl, by decide +kernel, rfl, by decide +kernel, by decide +kernel⟩
abbrev s_is_unsigned : Stmt := top 16
theorem sc_is_unsigned : FnScope ["text"] ["text"] (defScope s_is_unsigned) := ⟨rfl, rfl, rfl, by decide +kernel, rfl, by decide +kernel, by decide +kernel⟩
abbrev s_l_low : Stmt := top 24
theorem sc_l_low : FnScope ["up", "down", "x", "y"] ["up", "down"] (defScope s_l_low) := ⟨rfl, rfl, rfl, by decide +kernel, rfl, by decide +kernel, by decide +kernel⟩
abbrev s_l_sign : Stmt := top 25
theorem sc_l_sign : FnScope ["pool", "signs"] ["pool"] (defScope s_l_sign) := ⟨rfl, rfl, rfl, by decide +kernel, rfl, by decide +kernel, by decide +kernel⟩
abbrev s_l_changed : Stmt := top 26
theorem sc_l_changed : FnScope ["pool", "text", "at", "way", "sign"] ["pool", "text"] (defScope s_l_changed) := ⟨rfl, rfl, rfl, by decide +kernel, rfl, by decide +kernel, by decide +kernel⟩
abbrev s_l_odd_text : Stmt := top 27
theorem sc_l_odd_text : FnScope ["pool", "top", "low", "whole", "odd"] ["pool", "top", "low"] (defScope s_l_odd_text) := ⟨rfl, rfl, rfl, by decide +kernel, rfl, by decide +kernel, by decide +kernel⟩
abbrev s_l_long_text : Stmt := top 28
theorem sc_l_long_text : FnScope ["pool", "size", "many"] ["pool"] (defScope s_l_long_text) := ⟨rfl, rfl, rfl, by decide +kernel, rfl, by decide +kernel, by decide +kernel⟩
abbrev s_l_second_text : Stmt := top 29
theorem sc_l_second_text : FnScope ["pool", "low", "text", "way", "k"] ["pool", "low"] (defScope s_l_second_text) := ⟨rfl, rfl, rfl, by decide +kernel, rfl, by decide +kernel, by decide +kernel⟩
abbrev s_l_digits : Stmt := top 30
theorem sc_l_digits : FnScope ["word", "sign"] ["word"] (defScope s_l_digits) := ⟨rfl, rfl, rfl, by decide +kernel, rfl, by decide +kernel, by decide +kernel⟩
abbrev s_l_read : Stmt := top 31
theorem sc_l_read : FnScope ["text", "at", "top", "minus", "up", "down"] ["text"] (defScope s_l_read) := ⟨rfl, rfl, rfl, by decide +kernel, rfl, by decide +kernel, by decide +kernel⟩
abbrev s_l_fields : Stmt := top 32
theorem sc_l_fields : FnScope ["told", "due"] ["told", "due"] (defScope s_l_fields) := ⟨rfl, rfl, rfl, by decide +kernel, rfl, by decide +kernel, by decide +kernel⟩
abbrev s_l_refused : Stmt := top 33
theorem sc_l_refused : FnScope ["text", "good", "e"] ["text"] (defScope s_l_refused) := ⟨rfl, rfl, rfl, by decide +kernel, rfl, by decide +kernel, by decide +kernel⟩
abbrev s_l_text_holds : Stmt := top 34
theorem sc_l_text_holds : FnScope ["text", "due", "told"] ["text"] (defScope s_l_text_holds) := ⟨rfl, rfl, rfl, by decide +kernel, rfl, by decide +kernel, by decide +kernel⟩
abbrev s_Share___init__ : Stmt := inClass (top 15) 0
theorem sc_Share___init__ : FnScope ["self", "top", "bottom", "divisor"] ["self", "top", "bottom"] (defScope s_Share___init__) := ⟨rfl, rfl, rfl, by decide +kernel, rfl, by decide +kernel, by decide +kernel⟩
abbrev s_Share___mul__ : Stmt := inClass (top 15) 3
theorem sc_Share___mul__ : FnScope ["self", "other"] ["self", "other"] (defScope s_Share___mul__) := ⟨rfl, rfl, rfl, by decide +kernel, rfl, by decide +kernel, by decide +kernel⟩
abbrev s_Share___str__ : Stmt := inClass (top 15) 5
theorem sc_Share___str__ : FnScope ["self"] ["self"] (defScope s_Share___str__) := ⟨rfl, rfl, rfl, by decide +kernel, rfl, by decide +kernel, by decide +kernel⟩
abbrev s_Share_parse : Stmt := inClass (top 15) 7
theorem sc_Share_parse : FnScope ["text", "top", "_", "bottom", "share"] ["text"] (defScope s_Share_parse) := ⟨rfl, rfl, rfl, by decide +kernel, rfl, by decide +kernel, by decide +kernel⟩
structure Txt (K : PySem.W.Frag) (mg : Str → Option Value) (CShare COddsError CBadShare CBadText CBadBook CBadMove CBadProgram CBadPlan CUnfit CTooLarge CBadEdit : Addr) : Prop where
  d_l_int : Df K mg "_law_int" s_l_int
  d_l_pool : Df K mg "_law_pool" s_l_pool
  d_l_stirred : Df K mg "_law_stirred" s_l_stirred
  d_l_draw : Df K mg "_law_draw" s_l_draw
  d_l_size : Df K mg "_law_size" s_l_size
  d_l_fraction : Df K mg "_law_fraction" s_l_fraction
  d_law : Df K mg "law" s_law
  d_is_unsigned : Df K mg "is_unsigned" s_is_unsigned
  d_l_low : Df K mg "_law_low" s_l_low
  d_l_sign : Df K mg "_law_sign" s_l_sign
  d_l_changed : Df K mg "_law_changed" s_l_changed
  d_l_odd_text : Df K mg "_law_odd_text" s_l_odd_text
  d_l_long_text : Df K mg "_law_long_text" s_l_long_text
  d_l_second_text : Df K mg "_law_second_text" s_l_second_text
  d_l_digits : Df K mg "_law_digits" s_l_digits
  d_l_read : Df K mg "_law_read" s_l_read
  d_l_fields : Df K mg "_law_fields" s_l_fields
  d_l_refused : Df K mg "_law_refused" s_l_refused
  d_l_text_holds : Df K mg "_law_text_holds" s_l_text_holds
  n_isinstance : mg "isinstance" = none
  n_int : mg "int" = none
  n_bool : mg "bool" = none
  n_len : mg "len" = none
  n_abs : mg "abs" = none
  n_max : mg "max" = none
  n_range : mg "range" = none
  n_ValueError : mg "ValueError" = none
  n_str : mg "str" = none
  sh : ShC K mg CShare
  g_gcd : mg "gcd" = some (.builtin "math.gcd")
  g_MOST_DIGITS : ∃ u, mg "MOST_DIGITS" = some u ∧ RelV (.int 60) u
  x_BadShare : PySem.W.excIn K CBadShare [.type "ValueError", .type "Exception", .type "BaseException", .type "object"] "ValueError.__new__" = true
  d_init : ∃ f fd, Mk K CShare f ∧ FunD K "__init__" "Share.__init__" (defArgs s_Share___init__) (defBody s_Share___init__) (defScope s_Share___init__) [.int 1] [] f fd
  d_parse : ∃ p g fd, SmC K CShare (.type "type") "parse" p g ∧ SmI K CShare "parse" p g ∧ PySem.W.keepIn K (.ref g) = true ∧ Fun K "parse" "Share.parse" s_Share_parse g fd
  d_Share___mul__ : Dm K CShare "__mul__" "Share.__mul__" s_Share___mul__
  d_Share___str__ : Dm K CShare "__str__" "Share.__str__" s_Share___str__
  e_OddsError : ErrC K mg "OddsError" COddsError
  e_BadShare : ErrC K mg "BadShare" CBadShare
  e_BadText : ErrC K mg "BadText" CBadText
  e_BadBook : ErrC K mg "BadBook" CBadBook
  e_BadMove : ErrC K mg "BadMove" CBadMove
  e_BadProgram : ErrC K mg "BadProgram" CBadProgram
  e_BadPlan : ErrC K mg "BadPlan" CBadPlan
  e_Unfit : ErrC K mg "Unfit" CUnfit
  e_TooLarge : ErrC K mg "TooLarge" CTooLarge
  e_BadEdit : ErrC K mg "BadEdit" CBadEdit
  up : PySem.W.subIn K (.ref CBadShare) (.ref COddsError) = some true
  upV : PySem.W.subIn K (.ref CBadShare) (.type "ValueError") = some true
  no_BadText : PySem.W.subIn K (.ref CBadShare) (.ref CBadText) = some false ∧ CBadShare ≠ CBadText
  no_BadBook : PySem.W.subIn K (.ref CBadShare) (.ref CBadBook) = some false ∧ CBadShare ≠ CBadBook
  no_BadMove : PySem.W.subIn K (.ref CBadShare) (.ref CBadMove) = some false ∧ CBadShare ≠ CBadMove
  no_BadProgram : PySem.W.subIn K (.ref CBadShare) (.ref CBadProgram) = some false ∧ CBadShare ≠ CBadProgram
  no_BadPlan : PySem.W.subIn K (.ref CBadShare) (.ref CBadPlan) = some false ∧ CBadShare ≠ CBadPlan
  no_Unfit : PySem.W.subIn K (.ref CBadShare) (.ref CUnfit) = some false ∧ CBadShare ≠ CUnfit
  no_TooLarge : PySem.W.subIn K (.ref CBadShare) (.ref CTooLarge) = some false ∧ CBadShare ≠ CTooLarge
  no_BadEdit : PySem.W.subIn K (.ref CBadShare) (.ref CBadEdit) = some false ∧ CBadShare ≠ CBadEdit
/-! ## what the draws are worth -/
def spPool (K : PySem.W.Frag) : Sp := fun vs H Q _ => ∃ (a : Addr) (ns : List Int) (i : Int), vs = [.ref a, .int i] ∧ Scr K H a ns ∧ 0 ≤ i ∧ ∀ p H', H p = none → Kp [] H H' → Pool H' p → Q (.ref p) H'
def spDraw : Sp := fun vs H Q _ => ∃ (a : Addr) (m : Int), vs = [.ref a, .int m] ∧ Pool H a ∧ m ≤ 10000000000000000000000000000000000000000000000000000000000000000000000 ∧ ∀ r H', 0 ≤ r → (r < m ∨ r = 0) → Kp [a] H H' → Pool H' a → Q (.int r) H'
def spInt : Sp := fun vs H Q _ => ∃ (i : Int), vs = [.int i] ∧ Q (.bl true) H
section
variable {H : Hp} {Q : VK} {E : XK} {K : PySem.W.Frag}
theorem k_pool {a : Addr} {ns : List Int} {i : Int} (hs : Scr K H a ns) (h0 : 0 ≤ i) (k : ∀ p H', H p = none → Kp [] H H' → Pool H' p → Q (.ref p) H') : spPool K ([.ref a, .int i] ++ []) H Q E := ⟨a, ns, i, rfl, hs, h0, k⟩
theorem k_draw {a : Addr} {m : Int} (hp : Pool H a) (hm : m ≤ 10000000000000000000000000000000000000000000000000000000000000000000000) (k : ∀ r H', 0 ≤ r → (r < m ∨ r = 0) → Kp [a] H H' → Pool H' a → Q (.int r) H') : spDraw ([.ref a, .int m] ++ []) H Q E := ⟨a, m, rfl, hp, hm, k⟩
theorem k_int {i : Int} (q : Q (.bl true) H) : spInt ([.int i] ++ []) H Q E := ⟨i, rfl, q⟩
end
local macro_rules | `(tactic| tm_at "step") => `(tactic| first | (with_reducible refine' k_draw ?k1 ?k2 ?_; (case k1 => tm_at "lp"); (case k2 => k_dflt omega); intro r_ H_ h0_ h1_ hk_ hp_) | fail)
local macro_rules | `(tactic| tm_at "step") => `(tactic| first | with_reducible refine k_int ?_ | fail)
local macro_rules | `(tactic| tm_at "step") => `(tactic| first | (with_reducible refine' k_pool ?k1 ?k2 ?_; (case k1 => tm_at "ls"); (case k2 => k_dflt (tm_at "side")); intro p_ H_ hn_ hk_ hp_) | fail)

/-! ## texts -/
open SX in
theorem slash_S : ("/" : Str) = SX.S [47] := by decide +kernel
theorem minus_S : ("-" : Str) = SX.S [45] := by decide +kernel
theorem empty_S : Str.empty = SX.S [] := by decide +kernel
theorem bt_log {i : Int} (h : Bt 1900 i) : i.natAbs.log2 < 1920 := by
  by_cases z : i.natAbs = 0
  · rw [z]; decide
  · exact Nat.lt_of_lt_of_le ((Nat.log2_lt z).mpr h) (by decide)
theorem iL_len {i : Int} (h : Bt 1900 i) : (Tx.iL i).length ≤ 601 := by
  have z : i.natAbs < 10 ^ 600 := Nat.lt_of_lt_of_le h (by decide +kernel)
  have q := TL.numL_len (by decide : 0 < 600) z
  unfold Tx.iL
  split
  · rw [List.length_cons]; omega
  · omega
theorem shL_len {t b : Int} (h : Bt 1900 t) (h' : Bt 1900 b) : (Tx.shL t b).length ≤ 1203 := by
  have := iL_len h
  have := iL_len h'
  unfold Tx.shL
  rw [List.length_append, List.length_cons]
  omega
theorem text_S (t b : Int) : Str.empty ++ (Str.ofString (toString t)) ++ ("/" : Str) ++ (Str.ofString (toString b)) = SX.S (Tx.shL t b) := by
  rw [empty_S, slash_S, Tx.str_int, Tx.str_int, SX.S_cat, SX.S_cat, SX.S_cat]
  unfold Tx.shL
  simp
theorem text_S2 (t b : Int) : (Str.ofString (toString t)) ++ ("/" : Str) ++ (Str.ofString (toString b)) = SX.S (Tx.shL t b) := by
  rw [slash_S, Tx.str_int, Tx.str_int, SX.S_cat, SX.S_cat]
  unfold Tx.shL
  simp
def uns (l : List Nat) : Bool := decide (l.length ≤ 60) && (l.all (fun c => decide (c < 128)) && Tx.isDg l)
theorem uns_iff {l : List Nat} : uns l = true ↔ l ≠ [] ∧ Tx.Dg l ∧ l.length ≤ 60 := by
  unfold uns
  rw [Bool.and_eq_true, Bool.and_eq_true, Tx.isDg_iff, decide_eq_true_iff, List.all_eq_true]
  constructor
  · rintro ⟨a, _, b, c⟩; exact ⟨b, c, a⟩
  · rintro ⟨b, c, a⟩
    exact ⟨a, fun x hx => decide_eq_true (by have := c x hx; omega), b, c⟩
theorem good_parts {p q : List Nat} {t b : Int} (h : 47 ∉ p) (g : Tx.Good (p ++ 47 :: q) t b) : p = Tx.iL t ∧ q = TL.numL b.natAbs ∧ uns (Tx.noM p) = true ∧ uns q = true ∧ intText? (SX.S p) = some t ∧ ((NumText.digitsVal q : Nat) : Int) = b := by
  obtain ⟨e, b1, g1, l1, l2⟩ := g
  obtain ⟨rfl, rfl⟩ := Tx.app47 h (Tx.iL_free t) e
  have eb : Tx.iL b = TL.numL b.natAbs := by unfold Tx.iL; rw [if_neg (by omega)]
  rw [eb]
  refine ⟨rfl, rfl, ?_, ?_, Tx.int_iL l1, ?_⟩
  · rw [Tx.noM_iL]
    exact uns_iff.mpr ⟨TL.numL_ne _, Tx.dg_num _, l1⟩
  · exact uns_iff.mpr ⟨TL.numL_ne _, Tx.dg_num _, l2⟩
  · rw [TL.numL_val]; omega
theorem u_partN {a b x y z : Str} {H : Hp} {Q : VK} (e : Txt.partition a b = (x, y, z)) (hb : (b.length == 0) = false) (ha : a.length ≤ 100000) (k : ∀ p H', H p = none → Kp [] H H' → H' p = some (.tup [.str x, .str y, .str z]) → Q (.ref p) H') : rPart (.str a) [.str b] H Q :=
  u_partS hb ha fun p H' h1 h2 h3 => k p H' h1 h2 (by rw [e] at h3; exact h3)
theorem u_rmpN {a b c : Str} {H : Hp} {Q : VK} (e : Txt.removeprefix a b = c) (ha : a.length ≤ 100000) (q : Q (.str c) H) : rRmp (.str a) [.str b] H Q := u_rmp ha (e ▸ q)
theorem u_findN {a b : Str} {i : Int} {H : Hp} {Q : VK} (e : Txt.find a b = i) (q : Q (.int i) H) : rFind (.str a) [.str b] H Q := u_find (e ▸ q)
theorem u_slN {a b : Str} {lo hi : Option Int} {H : Hp} {Q : VK} (e : Txt.slice a lo hi = b) (ha : a.length ≤ 100000) (q : Q (.str b) H) : C8.rSlX (.str a) lo hi H Q := u_slX ha (e ▸ q)
theorem u_strN {i : Int} {b : Str} {H : Hp} {Q : VK} (e : Str.ofString (toString i) = b) (h : i.natAbs.log2 < 1920) (q : Q (.str b) H) : rStrI [.int i] H Q := u_strI h (e ▸ q)
local macro_rules | `(tactic| tm_at "ln") => `(tactic| first | with_reducible assumption | omega | (simp only [SX.S_len, Str.length_append]; omega) | fail)
local macro_rules | `(tactic| tm_at "lg") => `(tactic| first | with_reducible assumption | (with_reducible refine' bt_log ?k1; (case k1 => tm_at "bm")) | fail)
local macro_rules | `(tactic| tm_at "step") => `(tactic| first
  | with_reducible refine u_eqS ?_
  | with_reducible refine u_neS ?_
  | with_reducible refine bm_str ?_
  | with_reducible refine u_bm0 ?_
  | with_reducible refine u_find ?_
  | with_reducible refine u_asc ?_
  | with_reducible refine u_dgt ?_
  | with_reducible refine u_inS ?_
  | with_reducible refine u_niS ?_
  | with_reducible refine u_isNn ?_
  | with_reducible refine u_isNr ?_
  | (with_reducible refine' u_partS ?k1 ?k2 ?_; (case k1 => k_dflt rfl); (case k2 => tm_at "ln"); intro p_ H_ hn_ hk_ ho_)
  | (with_reducible refine' u_rmp ?k1 ?_; (case k1 => tm_at "ln"))
  | (with_reducible refine' u_addS ?k1 ?_; (case k1 => tm_at "ln"))
  | (with_reducible refine' u_lenS ?k1 ?_; (case k1 => tm_at "ln"))
  | (with_reducible refine' u_strI ?k1 ?_; (case k1 => tm_at "lg"))
  | (with_reducible refine' u_slX ?k1 ?_; (case k1 => tm_at "ln"))
  | with_reducible refine u_iS ?_
  | with_reducible refine u_iSq ?_
  | with_reducible refine u_join ?_
  | with_reducible refine js_cons ?_
  | with_reducible refine js_nil ?_
  | (with_reducible refine' jsQ ?k1 ?_; (case k1 => tm_at "ln"))
  | with_reducible refine u_fmt ?_
  | (with_reducible refine' fmtI ?k1 ?_; (case k1 => tm_at "lg"))
  | with_reducible refine u_smQ ?_
  | with_reducible refine smQ ?_
  | with_reducible refine u_smI ?_
  | (with_reducible refine' u_catL ?k1 ?k2 ?k3 ?_; (case k1 => tm_at "lk"); (case k2 => tm_at "lk"); (case k3 => k_dflt (exact Nat.le_of_ble_eq_true rfl)); intro p_ H_ hn_ hk_ ho_)
  | fail)
local macro_rules | `(tactic| tm_at "step") => `(tactic| first
  | (with_reducible refine' u_partN ?k0 ?k1 ?k2 ?_; (case k0 => with_reducible assumption); (case k1 => k_dflt rfl); (case k2 => tm_at "ln"); intro p_ H_ hn_ hk_ ho_)
  | (with_reducible refine' u_rmpN ?k0 ?k1 ?_; (case k0 => with_reducible assumption); (case k1 => tm_at "ln"))
  | (with_reducible refine' u_findN ?k0 ?_; (case k0 => with_reducible assumption))
  | (with_reducible refine' u_slN ?k0 ?k1 ?_; (case k0 => with_reducible assumption); (case k1 => tm_at "ln"))
  | (with_reducible refine' u_intS ?k0 ?k1 ?_; (case k0 => with_reducible assumption); (case k1 => tm_at "ln"))
  | fail)

/-! ## promises -/
def spStr (C : Addr) : Sp := fun vs H Q _ => ∃ (p : Addr) (t b : Int), vs = [.ref p] ∧ ShAt C H p t b ∧ Bt 1900 t ∧ Bt 1900 b ∧ Q (.str (SX.S (Tx.shL t b))) H
def spUns : Sp := fun vs H Q _ => ∃ (l : List Nat), vs = [.str (SX.S l)] ∧ l.length ≤ 90000 ∧ Q (.bl (uns l)) H
def spParse (C CB : Addr) : Sp := fun vs H Q E => ∃ (a : List Nat), vs = [.str (SX.S a)] ∧ a.length ≤ 90000 ∧
  (∀ t b, Tx.Good a t b → ∀ p H', Kp [] H H' → ShAt C H' p t b → Q (.ref p) H') ∧ ((¬ ∃ t b, Tx.Good a t b) → ∀ H', Kp [] H H' → E (.ref CB) none H')
section
variable {H : Hp} {Q : VK} {E : XK} {C CB : Addr} {K : PySem.W.Frag}
theorem k_str {p : Addr} {t b : Int} {vs : List V} (hv : vs = [.ref p]) (s : ShAt C H p t b) (h1 : Bt 1900 t) (h2 : Bt 1900 b) (k : Q (.str (SX.S (Tx.shL t b))) H) : spStr C vs H Q E := ⟨p, t, b, hv, s, h1, h2, k⟩
theorem k_strOwn {p : Addr} {t b : Int} (s : ShAt C H p t b) (h1 : Bt 1900 t) (h2 : Bt 1900 b) (k : Q (.str (SX.S (Tx.shL t b))) H) : rStrOwn C (spStr C) E [.ref p] H Q := by
  obtain ⟨dx, e⟩ := id s
  exact ⟨p, dx, _, rfl, e, p, t, b, rfl, s, h1, h2, _, rfl, k⟩
theorem k_uns {l : List Nat} {vs : List V} (hv : vs = [.str (SX.S l)]) (h : l.length ≤ 90000) (k : Q (.bl (uns l)) H) : spUns vs H Q E := ⟨l, hv, h, k⟩
end
local macro_rules | `(tactic| tm_at "step") => `(tactic| first | (with_reducible refine' k_strOwn ?k1 ?k2 ?k3 ?_; (case k1 => tm_at "sh"); (case k2 => tm_at "bm"); (case k3 => tm_at "bm")) | fail)
local macro_rules | `(tactic| tm_at "step") => `(tactic| first | (with_reducible refine' k_uns ?k0 ?k1 ?_; (case k0 => k_dflt rfl); (case k1 => tm_at "ln")) | fail)
local macro_rules | `(tactic| tm_at "step") => `(tactic| first | (with_reducible refine' k_share ?k1 ?k2 ?_; (case k1 => tm_at "b1"); (case k2 => tm_at "bm"); intro p_ H_ t_ b_ hn_ hk_ hs_ hf_) | fail)
local macro_rules | `(tactic| tm_at "step") => `(tactic| first | (with_reducible refine' k_share1 ?_; intro p_ H_ t_ b_ hn_ hk_ hs_ hf_) | fail)

section
variable {P : Program} {w : World} {K : PySem.W.Frag} {mg : Str → Option Value} {base : Heap} {CShare COddsError CBadShare CBadText CBadBook CBadMove CBadProgram CBadPlan CUnfit CTooLarge CBadEdit : Addr}
theorem ok_l_int (T : Txt K mg CShare COddsError CBadShare CBadText CBadBook CBadMove CBadProgram CBadPlan CUnfit CTooLarge CBadEdit) : Fc P w K mg base CX0 1 "_law_int" ["x"] (spInt) := by
  refine fc_of T.d_l_int sc_l_int (fun vs H Q E h => by obtain ⟨i, rfl, k⟩ := h; rfl) (fun _ _ _ _ _ _ us hl => match us, hl with | [_], _ => rfl) fun f cdv A outer s H vs Q E hr h => ⟨_, (pss_one (ps_ret (pe_and (pe_callB (isiK K) (by rfl) T.n_isinstance b_isinstance (pa_cons (pv 0) (pa_cons (pe_bltn (v := .ty "int") (by rfl) T.n_int b_int rfl) pa_nil))) (pe_one (pe_not (pe_callB (isiK K) (by rfl) T.n_isinstance b_isinstance (pa_cons (pv 0) (pa_cons (pe_bltn (v := .ty "bool") (by rfl) T.n_bool b_bool rfl) pa_nil)))))))), ?_⟩
  obtain ⟨i, rfl, k⟩ := h
  tm_at "go"
  exact k
theorem ok_l_pool (T : Txt K mg CShare COddsError CBadShare CBadText CBadBook CBadMove CBadProgram CBadPlan CUnfit CTooLarge CBadEdit) : Fc P w K mg base CX0 1 "_law_pool" ["script", "at"] (spPool K) := by
  refine fc_of T.d_l_pool sc_l_pool (fun vs H Q E h => by obtain ⟨a, ns, i, rfl, hs, h0, k⟩ := h; rfl) (fun _ _ _ _ _ _ us hl => match us, hl with | [_, _], _ => rfl) fun f cdv A outer s H vs Q E hr h => ⟨_, (pss_cons (ps_set (i := 2) sc_l_pool.nd rfl (Or.inl rfl) pe_int)
 (pss_cons (ps_if (pt_cmpR op_lt (pv 1) (pe_callB (lenK K) (by rfl) T.n_len b_len (pa_cons (pv 0) pa_nil)) (nomark _))
 (pss_one (ps_set (i := 2) sc_l_pool.nd rfl (Or.inl rfl) (pe_callB c_abs (by rfl) T.n_abs b_abs (pa_cons (pe_callTy c_int1 (by rfl) T.n_int b_int (pa_cons (pe_ix (ixlK K) (pv 0) (pv 1) (fun _ _ => rfl)) pa_nil)) pa_nil))))
 pss_nil)
 (pss_cons (ps_set (i := 3) sc_l_pool.nd rfl (Or.inl rfl) (pe_op op_add (pe_callTy c_int1 (by rfl) T.n_int b_int (pa_cons (pe_cmpR op_gt (pv 2) pe_int (nomark _)) pa_nil)) (pe_callTy c_int1 (by rfl) T.n_int b_int (pa_cons (pe_cmpR op_ge (pv 2) (pe_op op_pow pe_int pe_int) (nomark _)) pa_nil))))
 (pss_one (ps_ret (pe_lst (pa_cons (pv 2) (pa_cons (pe_op op_mod (pe_callTy c_int1 (by rfl) T.n_int b_int (pa_cons (pv 2) pa_nil)) pe_int) (pa_cons pe_int (pa_cons (pv 3) pa_nil)))))))))), ?_⟩
  obtain ⟨a, ns, i, rfl, hs, h0, k⟩ := h
  tm_at "go"
  · rename_i hc
    obtain ⟨z, hz⟩ := atI_int h0 hc
    refine u_ixL hs.sq hz ?_
    tm_at "run"
    rename_i hp
    exact k _ _ (by assumption) (by assumption) ⟨_, _, _, _, hp⟩
  · rename_i hp
    exact k _ _ (by assumption) (by assumption) ⟨_, _, _, _, hp⟩
theorem ok_l_stirred (T : Txt K mg CShare COddsError CBadShare CBadText CBadBook CBadMove CBadProgram CBadPlan CUnfit CTooLarge CBadEdit) : Fc P w K mg base CX0 2 "_law_stirred" ["script", "at"] (spPool K) := by
  refine fc_of T.d_l_stirred sc_l_stirred (fun vs H Q E h => by obtain ⟨a, ns, i, rfl, hs, h0, k⟩ := h; rfl) (fun _ _ _ _ _ _ us hl => match us, hl with | [_, _], _ => rfl) fun f cdv A outer s H vs Q E hr h => ⟨_, (pss_cons (ps_set (i := 2) sc_l_stirred.nd rfl (Or.inl rfl) (pe_fc (ok_l_pool T) pass0 (hr.mono (by decide)) (pa_cons (pv 0) (pa_cons (pv 1) pa_nil))))
 (pss_cons (ps_for PassesOwn.never rfl (piLK K (pe_slice (sllK K) (pv 0) po_none (po_some pe_int))) (pg_name (i := 3) sc_l_stirred.nd rfl (Or.inl rfl))
 (pss_one (ps_asg (pe_op op_mod (pe_callTy c_int1 (by rfl) T.n_int b_int (pa_cons (pe_op op_add (pe_op op_mul (pe_ix (ixlK K) (pv 2) pe_int (fun _ _ => rfl)) pe_int) (pv 3)) pa_nil)) pe_int) (pg_sub (pv 2) pe_int set_list))))
 (pss_one (ps_ret (pv 2))))), ?_⟩
  obtain ⟨a, ns, i, rfl, hs, h0, k⟩ := h
  tm_at "go"
  rename_i p H1 hn hk hp q H2 hn2 hk2 hq
  obtain ⟨ms, em, _⟩ := cutV_map (ns := ns) (lo := none) (hi := some 6)
  rw [em] at hq
  refine l_list (ms.map V.int) (fun _ σ H' => ∃ v : Option V, σ = [some (.ref a), some (.int i), some (.ref p), v] ∧ Kp [] H H' ∧ Pool H' p ∧ H' q = some (.lst (ms.map V.int))) ?_ ?_ ?_ ?_
  · exact ⟨none, rfl, by tm_at "kc", by tm_at "lp", hq⟩
  · rintro j σ H' _ ⟨_, _, _, _, e⟩
    exact sql e
  · rintro j x σ H3 hx ⟨v, rfl, hk3, ⟨c, y, n, d, hp3⟩, hq3⟩
    obtain ⟨z, rfl⟩ := item_int hx
    have npq : q ≠ p := (Pool.ne hn2 hp).symm
    tm_at "run"
    rename_i H4 hk4 hp4
    exact ⟨_, rfl, hk3.low' hk4 hn .refl, ⟨_, _, _, _, hp4⟩, hk4.get1 npq hq3⟩
  · rintro σ H3 ⟨v, rfl, hk3, hp3, _⟩
    tm_at "run"
    exact k _ _ hn hk3 hp3
theorem ok_l_draw (T : Txt K mg CShare COddsError CBadShare CBadText CBadBook CBadMove CBadProgram CBadPlan CUnfit CTooLarge CBadEdit) : Fc P w K mg base CX0 1 "_law_draw" ["pool", "many"] (spDraw) := by
  refine fc_of T.d_l_draw sc_l_draw (fun vs H Q E h => by obtain ⟨a, m, rfl, ⟨c, x, n, j, hp⟩, hm, k⟩ := h; rfl) (fun _ _ _ _ _ _ us hl => match us, hl with | [_, _], _ => rfl) fun f cdv A outer s H vs Q E hr h => ⟨_, (pss_cons (ps_asg (pe_op op_add (pe_ix (ixlK K) (pv 0) pe_int (fun _ _ => rfl)) pe_int) (pg_sub (pv 0) pe_int set_list))
 (pss_cons (ps_if (PW.pt (pw_or (pt_cmpR op_eq (pe_ix (ixlK K) (pv 0) pe_int (fun _ _ => rfl)) pe_int (nomark _)) (pw_or1 (pt_cmpR op_lt (pv 1) pe_int (nomark _)))))
 (pss_one (ps_ret pe_int))
 pss_nil)
 (pss_cons (ps_if (PW.pt (pw_and (pt_cmpR op_eq (pe_ix (ixlK K) (pv 0) pe_int (fun _ _ => rfl)) pe_int (nomark _)) (pw_and1 (pt_cmpR op_gt (pe_ix (ixlK K) (pv 0) pe_int (fun _ _ => rfl)) pe_int (nomark _)))))
 (pss_cons (ps_set (i := 2) sc_l_draw.nd rfl (Or.inl rfl) (pe_op op_mod (pe_callTy c_int1 (by rfl) T.n_int b_int (pa_cons (pe_ix (ixlK K) (pv 0) pe_int (fun _ _ => rfl)) pa_nil)) (pv 1)))
 (pss_cons (ps_asg (pe_op op_fdivW (pe_ix (ixlK K) (pv 0) pe_int (fun _ _ => rfl)) (pv 1)) (pg_sub (pv 0) pe_int set_list))
 (pss_one (ps_ret (pv 2)))))
 pss_nil)
 (pss_cons (ps_set (i := 3) sc_l_draw.nd rfl (Or.inl rfl) (pe_op op_mod (pe_callTy c_int1 (by rfl) T.n_int b_int (pa_cons (pe_op op_add (pe_op op_add (pe_op op_mul (pe_ix (ixlK K) (pv 0) pe_int (fun _ _ => rfl)) pe_int) (pe_op op_mul (pe_ix (ixlK K) (pv 0) pe_int (fun _ _ => rfl)) pe_int)) pe_int) pa_nil)) pe_int))
 (pss_cons (ps_set (i := 3) sc_l_draw.nd rfl (Or.inl rfl) (pe_op op_mod (pe_callTy c_int1 (by rfl) T.n_int b_int (pa_cons (pe_op op_add (pe_op op_mul (pv 3) (pv 3)) (pe_ix (ixlK K) (pv 0) pe_int (fun _ _ => rfl))) pa_nil)) pe_int))
 (pss_cons (ps_set (i := 3) sc_l_draw.nd rfl (Or.inl rfl) (pe_op op_mod (pe_callTy c_int1 (by rfl) T.n_int b_int (pa_cons (pe_op op_add (pe_op op_mul (pv 3) (pv 3)) (pe_ix (ixlK K) (pv 0) pe_int (fun _ _ => rfl))) pa_nil)) pe_int))
 (pss_one (ps_ret (pe_op op_mod (pe_callTy c_int1 (by rfl) T.n_int b_int (pa_cons (pe_op op_fdivW (pv 3) pe_int) pa_nil)) (pv 1)))))))))), ?_⟩
  obtain ⟨a, m, rfl, ⟨c, x, n, j, hp⟩, hm, k⟩ := h
  tm_at "go"
  · exact k _ _ (by omega) (by omega) (by tm_at "kc") ⟨_, _, _, _, by assumption⟩
  · exact k _ _ (by omega) (by omega) (by tm_at "kc") ⟨_, _, _, _, by assumption⟩
  all_goals exact k _ _ (Int.emod_nonneg _ (by omega)) (Or.inl (Int.emod_lt_of_pos _ (by omega))) (by tm_at "kc") ⟨_, _, _, _, by assumption⟩

/-! ## the program: Share -/
theorem ok_Share (T : Txt K mg CShare COddsError CBadShare CBadText CBadBook CBadMove CBadProgram CBadPlan CUnfit CTooLarge CBadEdit) : NcSh P w K mg base 1 CShare CBadShare := by
  obtain ⟨f, fd, mk, F⟩ := T.d_init
  refine ⟨f, fd, mk, ?_, T.sh.g, ?_, ?_, ?_⟩
  · refine F.ok sc_Share___init__ (fun vs H Q E h => by obtain ⟨p, dx, u, d, rfl, _⟩ := h; rfl) fun cdv A outer s H vs Q E hr h => ⟨_, (pss_cons (ps_if (pt_cmpR op_lt (pv 2) pe_int (nomark _))
 (pss_one (ps_raise rfl (takes_of rfl rfl rfl rfl) (pmk_own PySem.F.excBase_ValueError T.x_BadShare T.e_BadShare.g T.e_BadShare.k (raises_own T.e_BadShare.b T.e_BadShare.t) rfl)))
 pss_nil)
 (pss_cons (ps_set (i := 3) sc_Share___init__.nd rfl (Or.inl rfl) (pe_callBfun cr_gcd (by rfl) T.g_gcd (pa_cons (pv 1) (pa_cons (pv 2) pa_nil))))
 (pss_cons (ps_fld (pv 0) (pe_op op_fdivW (pv 1) (pv 3)) rfl)
 (pss_one (ps_fld (pv 0) (pe_op op_fdivW (pv 2) (pv 3)) rfl))))), ?_⟩
    obtain ⟨p, dx, u, d, rfl, hp, hb, kE, kQ⟩ := h
    tm_at "go"
    · exact kE (by assumption)
    · rename_i hc
      have hd : 1 ≤ d := by omega
      have gp := Fr.Fr.gpos (u := u) hd
      have gb : Bt 8500 ((Nat.gcd u.natAbs d.natAbs : Nat) : Int) := hb.le (by have := Fr.Fr.gle (u := u) hd; omega)
      have cd : ∀ x, CDivW x ((Nat.gcd u.natAbs d.natAbs : Nat) : Int) := fun x => gb.cdiv gp
      refine u_I (cd _) ?_
      tm_at "run"
      refine sf_of T.sh.cl T.sh.nt hp (by decide) fun H1 k1 e1 => ?_
      tm_at "run"
      refine u_I (cd _) ?_
      tm_at "run"
      refine sf_of T.sh.cl T.sh.nb e1 (by show 1 < 1000; decide) fun H2 k2 e2 => ?_
      rw [shF_put] at e2
      exact kQ hd _ _ _ (k1.trans k2) ⟨_, e2⟩ (Fr.Fr.init hd)
  · obtain ⟨ds, v, b⟩ := F.binds1 (ps := ["self", "top", "bottom"]) 3 1 (by simp) rfl (fun T kV doc pm an cdv ct us its hu hi => match us, its, hu, hi with | [_, _, _], [_], _, _ => ⟨_, rfl, rfl⟩)
    cases v
    exact b
  · exact F.binds1 (ps := ["self", "top", "bottom"]) 2 0 (by simp) rfl (fun T kV doc pm an cdv ct us its hu hi => match us, its, hu, hi with | [_, _], [_], _, _ => ⟨_, rfl, rfl⟩)
  · exact F.kbindsD (ps := ["self", "top", "bottom"]) 2 ["bottom"] (fun vs _ zs => vs ++ zs) (by simp) (fun r1 _ r3 => r1.append r3) (fun T kV doc pm an cdv ct us its ws hu hi hw => match us, its, ws, hu, hi, hw with | [_, _], [_], [_], _, _, _ => ⟨_, rfl, rfl⟩)
theorem ok_Share___mul__ (T : Txt K mg CShare COddsError CBadShare CBadText CBadBook CBadMove CBadProgram CBadPlan CUnfit CTooLarge CBadEdit) : Mc P w K mg base (L2.CX P w) 3 CShare "__mul__" ["self", "other"] (spAdd CShare gMul) := by
  refine mc_ofX T.d_Share___mul__ sc_Share___mul__ (fun vs H Q E h => by obtain ⟨p, q, t, b, t', b', rfl, h1, h2, hb, hb', s1, s2, s3, s4, k⟩ := h; rfl) (fun _ _ _ _ _ _ us hl => match us, hl with | [_, _], _ => rfl) fun f cdv A outer s H vs Q E hr h => ⟨_, (pss_one (ps_ret (pe_sh (ok_Share T) (passAll passL) (hr.mono (by decide)) (pa_cons (pe_op op_mulX (fldK K (pv 0) rfl) (fldK K (pv 1) rfl)) (pa_cons (pe_op op_mulX (fldK K (pv 0) rfl) (fldK K (pv 1) rfl)) pa_nil))))), ?_⟩
  obtain ⟨p, q, t, b, t', b', rfl, h1, h2, hb, hb', s1, s2, s3, s4, k⟩ := h
  have S := T.sh
  tm_at "go"
  refine k_share (Int.mul_pos hb hb') ((s2.mul s4).mono (by decide)) fun r H' x y hr k1 sh fr => ?_
  exact k _ _ _ _ hr k1 sh fr

theorem ok_Share___str__ (T : Txt K mg CShare COddsError CBadShare CBadText CBadBook CBadMove CBadProgram CBadPlan CUnfit CTooLarge CBadEdit) : Mc P w K mg base CX0 1 CShare "__str__" ["self"] (spStr CShare) := by
  refine mc_of T.d_Share___str__ sc_Share___str__ (fun vs H Q E h => by obtain ⟨p, t, b, rfl, s, h1, h2, k⟩ := h; rfl) (fun _ _ _ _ _ _ us hl => match us, hl with | [_], _ => rfl) fun f cdv A outer s H vs Q E hr h => ⟨_, (pss_one (ps_ret (pe_join (.cons (pe_fmt (fldK K (pv 0) rfl)) (.cons pe_str (.cons (pe_fmt (fldK K (pv 0) rfl)) .nil)))))), ?_⟩
  obtain ⟨p, t, b, rfl, s, h1, h2, k⟩ := h
  have S := T.sh
  have l1 : (Str.ofString (toString t)).length ≤ 601 := by rw [Tx.str_int, SX.S_len]; exact iL_len h1
  have l2 : (Str.ofString (toString b)).length ≤ 601 := by rw [Tx.str_int, SX.S_len]; exact iL_len h2
  have l3 : ("/" : Str).length = 1 := by decide +kernel
  have l4 : Str.empty.length = 0 := by decide +kernel
  tm_at "go"
  show Q (V.str (Str.empty ++ Str.ofString (toString t) ++ Str.ofString "/" ++ Str.ofString (toString b))) H
  rw [text_S]
  exact k
theorem ok_is_unsigned (T : Txt K mg CShare COddsError CBadShare CBadText CBadBook CBadMove CBadProgram CBadPlan CUnfit CTooLarge CBadEdit) : Fc P w K mg base CX0 1 "is_unsigned" ["text"] (spUns) := by
  refine fc_of T.d_is_unsigned sc_is_unsigned (fun vs H Q E h => by obtain ⟨l, rfl, hl, k⟩ := h; rfl) (fun _ _ _ _ _ _ us hl => match us, hl with | [_], _ => rfl) fun f cdv A outer s H vs Q E hr h => ⟨_, (pss_one (ps_ret (pe_and (pe_cmpR op_le (pe_callB c_lenS (by rfl) T.n_len b_len (pa_cons (pv 0) pa_nil)) (C8.pe_gc (v := .int 60) rfl T.g_MOST_DIGITS) (nomark _)) (pe_and (pe_bm0 PySem.F.plainAttrs_str PySem.F.slot_str_isascii PySem.F.type_str_isascii m_asc (pv 0)) (pe_one (pe_bm0 PySem.F.plainAttrs_str PySem.F.slot_str_isdigit PySem.F.type_str_isdigit m_dgt (pv 0))))))), ?_⟩
  obtain ⟨l, rfl, hl, k⟩ := h
  tm_at "go"
  · rename_i hc
    rw [SX.S_len] at hc
    have hc : l.length ≤ 60 := by omega
    rw [Tx.ascii_S]
    refine br_b (fun ha => ?_) (fun ha => ?_)
    · tm_at "run"
      show Q (V.bl (Txt.isdigit (SX.S l))) H
      rw [Tx.digit_S ha]
      have e : uns l = Tx.isDg l := by unfold uns; rw [ha, decide_eq_true hc]; rfl
      rw [← e]
      exact k
    · tm_at "run"
      have e : uns l = false := by unfold uns; rw [ha]; simp
      rw [e] at k
      exact k
  · rename_i hc
    rw [SX.S_len] at hc
    have e : uns l = false := by
      unfold uns
      rw [decide_eq_false (by omega)]
      rfl
    rw [e] at k
    exact k
theorem ok_Share_parse (T : Txt K mg CShare COddsError CBadShare CBadText CBadBook CBadMove CBadProgram CBadPlan CUnfit CTooLarge CBadEdit) : NcSm P w K mg base (L2.CX P w) 4 CShare "parse" ["text"] (spParse CShare CBadShare) := by
  obtain ⟨p0, g0, fd, sc, si, hk, F⟩ := T.d_parse
  refine ⟨p0, g0, fd, sc, si, hk, F.okX sc_Share_parse (fun vs H Q E h => by obtain ⟨a, rfl, _⟩ := h; rfl) fun cdv A outer s H vs Q E hr h => ⟨_, (pss_cons (ps_asg (pe_bm PySem.F.plainAttrs_str PySem.F.slot_str_partition PySem.F.type_str_partition m_part (pv 0) (pa_cons pe_str pa_nil)) (pgTK K 3 (by rfl) (pgs_cons (pg_name (i := 1) sc_Share_parse.nd rfl (Or.inl rfl)) (pgs_cons (pg_name (i := 2) sc_Share_parse.nd rfl (Or.inl rfl)) (pgs_cons (pg_name (i := 3) sc_Share_parse.nd rfl (Or.inl rfl)) pgs_nil)))))
 (pss_cons (ps_if (PW.pt (pw_or (pt_not (pt_val (pe_fc (ok_is_unsigned T) pass0 (hr.mono (by decide)) (pa_cons (pe_bm PySem.F.plainAttrs_str PySem.F.slot_str_removeprefix PySem.F.type_str_removeprefix m_rmp (pv 1) (pa_cons pe_str pa_nil)) pa_nil)))) (pw_or1 (pt_not (pt_val (pe_fc (ok_is_unsigned T) pass0 (hr.mono (by decide)) (pa_cons (pv 3) pa_nil)))))))
 (pss_one (ps_raise rfl (takes_of rfl rfl rfl rfl) (pmk_own PySem.F.excBase_ValueError T.x_BadShare T.e_BadShare.g T.e_BadShare.k (raises_own T.e_BadShare.b T.e_BadShare.t) rfl)))
 pss_nil)
 (pss_cons (ps_set (i := 4) sc_Share_parse.nd rfl (Or.inl rfl) (pe_sh (ok_Share T) (passAll (passes_call (takes_of rfl rfl rfl rfl) (fun _ _ _ _ h => h))) (hr.mono (by decide)) (pa_cons (pe_callTy c_intS (by rfl) T.n_int b_int (pa_cons (pv 1) pa_nil)) (pa_cons (pe_callTy c_intS (by rfl) T.n_int b_int (pa_cons (pv 3) pa_nil)) pa_nil))))
 (pss_cons (ps_if (pt_cmpR op_ne (pe_callTy (call_strOwn (ok_Share___str__ T) pass0 (hr.mono (by decide))) (by rfl) T.n_str b_str (pa_cons (pv 4) pa_nil)) (pv 0) (nomark _))
 (pss_one (ps_raise rfl (takes_of rfl rfl rfl rfl) (pmk_own PySem.F.excBase_ValueError T.x_BadShare T.e_BadShare.g T.e_BadShare.k (raises_own T.e_BadShare.b T.e_BadShare.t) rfl)))
 pss_nil)
 (PSs.nox (pss_one (ps_ret (pv 4)))))))), ?_⟩, F.binds (fun _ _ _ _ _ _ us hl => match us, hl with | [_], _ => rfl)⟩
  obtain ⟨a, rfl, hl, hG, hB⟩ := h
  have S := T.sh
  have e0 : Str.ofString "/" = SX.S [47] := slash_S
  rcases Tx.split47 a with h47 | ⟨p, q, rfl, h47⟩
  · have e1 : Txt.partition (SX.S a) (Str.ofString "/") = (SX.S a, SX.S [], SX.S []) := by rw [e0]; exact SX.partition_none (by simp) (SX.par_head_none h47)
    have e2 : Txt.removeprefix (SX.S a) (Str.ofString "-") = SX.S (Tx.noM a) := by rw [show Str.ofString "-" = SX.S [45] from minus_S]; exact Tx.rmp a
    have l2 : (Tx.noM a).length ≤ 90000 := by unfold Tx.noM; split <;> (try rw [List.length_tail]) <;> omega
    have bad : ¬ ∃ t b, Tx.Good a t b := by
      rintro ⟨t, b, g⟩
      rw [g.1] at h47
      exact h47 (by unfold Tx.shL; simp)
    have u0 : uns [] = false := by decide
    have l0 : ([] : List Nat).length ≤ 90000 := by decide
    tm_at "go"
    refine br_b (fun hu => ?_) (fun hu => ?_)
    · tm_at "run"
      rw [u0]
      tm_at "run"
      exact hB bad _ (by tm_at "kc")
    · tm_at "run"
      exact hB bad _ (by tm_at "kc")
  · have e1 : Txt.partition (SX.S (p ++ 47 :: q)) (Str.ofString "/") = (SX.S p, SX.S [47], SX.S q) := by rw [e0]; exact SX.partition_some (by simp) (SX.par_head q h47)
    have e2 : Txt.removeprefix (SX.S p) (Str.ofString "-") = SX.S (Tx.noM p) := by rw [show Str.ofString "-" = SX.S [45] from minus_S]; exact Tx.rmp p
    rw [List.length_append, List.length_cons] at hl
    have hl2 : (p ++ 47 :: q).length ≤ 90000 := by rw [List.length_append, List.length_cons]; exact hl
    have l2 : (Tx.noM p).length ≤ 90000 := by unfold Tx.noM; split <;> (try rw [List.length_tail]) <;> omega
    have lq : q.length ≤ 90000 := by omega
    tm_at "go"
    refine br_b (fun hu => ?_) (fun hu => ?_)
    · tm_at "run"
      refine br_b (fun hv => ?_) (fun hv => ?_)
      · obtain ⟨n1, n2, n3⟩ := uns_iff.mp hu
        obtain ⟨m1, m2, m3⟩ := uns_iff.mp hv
        obtain ⟨i, hi, ni⟩ := Tx.int_any n1 n2 n3
        have hj := Tx.int_of m1 m2 m3
        have lp : p.length ≤ 61 := by
          unfold Tx.noM at n3
          split at n3
          · rw [List.length_tail] at n3; omega
          · omega
        have p6 : (10 : Nat) ^ 60 ≤ 2 ^ 200 := by decide +kernel
        have v1 : i.natAbs < 10 ^ 60 := by rw [ni]; exact Nat.lt_of_lt_of_le (Tx.val_lt _ _ rfl n2) (Nat.pow_le_pow_right (by decide) n3)
        have v2 : NumText.digitsVal q < 10 ^ 60 := Nat.lt_of_lt_of_le (Tx.val_lt _ _ rfl m2) (Nat.pow_le_pow_right (by decide) m3)
        have bi : Bt 200 i := Nat.lt_of_lt_of_le v1 p6
        obtain ⟨j, ej⟩ : ∃ j : Int, j = ((NumText.digitsVal q : Nat) : Int) := ⟨_, rfl⟩
        rw [← ej] at hj
        have bj : Bt 200 j := by
          unfold Bt
          have : j.natAbs = NumText.digitsVal q := by omega
          rw [this]
          exact Nat.lt_of_lt_of_le v2 p6
        tm_at "run"
        by_cases hd : j < 1
        · refine k_shareBad2 hd (bj.mono (by decide)) fun H1 k1 => hB ?_ _ (by tm_at "kc")
          rintro ⟨t, b, g⟩
          obtain ⟨_, _, _, _, _, q6⟩ := good_parts h47 g
          have := g.2.1
          omega
        · have hd : 1 ≤ j := by omega
          tm_at "run"
          rename_i r H2 t b hn hk hs hf
          have st : Bt 200 t := bi.le (hf.absle hd)
          have sb : Bt 200 b := bj.le (by have := hf.le hd; have := hf.1; omega)
          tm_at "run"
          · rename_i hc
            have e := SX.S_inj hc
            obtain ⟨q1, q2⟩ := Tx.app47 (Tx.iL_free t) h47 e
            have b1 := hf.1
            have eb : Tx.iL b = TL.numL b.natAbs := by unfold Tx.iL; rw [if_neg (by omega)]
            refine hG t b ⟨e.symm, b1, hf.2.1, ?_, ?_⟩ _ _ (by tm_at "kc") hs
            · rw [← q1, Tx.noM_iL] at n3
              exact n3
            · rw [← q2, eb] at m3
              exact m3
          · rename_i hc
            refine hB ?_ _ (by tm_at "kc")
            rintro ⟨t', b', g⟩
            obtain ⟨_, _, _, _, q5, q6⟩ := good_parts h47 g
            have ei : i = t' := by rw [hi] at q5; exact Option.some.inj q5
            have eb : j = b' := by omega
            rw [ei, eb] at hf
            have g1 : Fr.Fr t' b' t' b' := ⟨g.2.1, g.2.2.1, rfl⟩
            obtain ⟨rfl, rfl⟩ := (Fr.Fr.eq_iff hf g1 g.2.1 g.2.1).mpr rfl
            exact hc (by rw [g.1])
      · tm_at "run"
        refine hB ?_ _ (by tm_at "kc")
        rintro ⟨t, b, g⟩
        have := (good_parts h47 g).2.2.2.1
        rw [hv] at this
        cases this
    · tm_at "run"
      refine hB ?_ _ (by tm_at "kc")
      rintro ⟨t, b, g⟩
      have := (good_parts h47 g).2.2.1
      rw [hu] at this
      cases this

end
end My
set_option Elab.async false
set_option linter.all false
set_option autoImplicit false
set_option maxRecDepth 100000
set_option maxHeartbeats 4000000
namespace My
open PySem PySem.Spec PyProof.Rows L2 U
/-! my own steps: rows of tactics, tried from above -/
local macro_rules | `(tactic| tm_at "lk") => `(tactic| first | with_reducible assumption | (with_reducible refine' Kp.get0 ?k1 ?k2; (case k1 => with_reducible assumption); (case k2 => tm_at "lk")) | (with_reducible refine' Kp.get1 ?k1 ?k3 ?k2; (case k1 => with_reducible assumption); (case k3 => tm_at "ne"); (case k2 => tm_at "lk")) | fail)
local macro_rules | `(tactic| tm_at "lp") => `(tactic| first | with_reducible assumption | (with_reducible refine' Pool.kp0 ?k1 ?k2; (case k1 => with_reducible assumption); (case k2 => tm_at "lp")) | (with_reducible refine' Pool.kp1 ?k1 ?k3 ?k2; (case k1 => with_reducible assumption); (case k3 => tm_at "ne"); (case k2 => tm_at "lp")) | fail)
local macro_rules | `(tactic| tm_at "ls") => `(tactic| first | with_reducible assumption | (with_reducible refine' Scr.kp0 ?k1 ?k2; (case k1 => with_reducible assumption); (case k2 => tm_at "ls")) | (with_reducible refine' Scr.kp1 ?k1 ?k3 ?k4 ?k2; (case k1 => with_reducible assumption); (case k3 => with_reducible assumption); (case k4 => tm_at "ls"); (case k2 => tm_at "ls")) | fail)
local macro_rules | `(tactic| tm_at "ne") => `(tactic| first | with_reducible assumption | (with_reducible refine' Ne.symm ?k1; with_reducible assumption) | (with_reducible refine' ne_new ?k1 ?k2; (case k1 => with_reducible assumption); (case k2 => tm_at "lk")) | (with_reducible refine' ne_new' ?k1 ?k2; (case k1 => with_reducible assumption); (case k2 => tm_at "lk")) | (with_reducible refine' Pool.ne ?k1 ?k2; (case k1 => with_reducible assumption); (case k2 => tm_at "lp")) | (with_reducible refine' Ne.symm (Pool.ne ?k1 ?k2); (case k1 => with_reducible assumption); (case k2 => tm_at "lp")) | fail)
local macro_rules | `(tactic| tm_at "kc") => `(tactic| first | with_reducible assumption | with_reducible exact Kp.refl | (with_reducible refine' Kp.trans ?k1 (Kp.of0 ?k2); (case k2 => with_reducible assumption); (case k1 => tm_at "kc")) | (with_reducible refine' Kp.trans ?k1 ?k2; (case k2 => with_reducible assumption); (case k1 => tm_at "kc")) | (with_reducible refine' Kp.low' ?k1 ?k2 ?k3 ?k4; (case k2 => with_reducible assumption); (case k3 => with_reducible assumption); (case k1 => tm_at "kc"); (case k4 => tm_at "kc")) | fail)
local macro_rules | `(tactic| tm_at "sq") => `(tactic| first | (with_reducible refine' sql ?k9; (case k9 => tm_at "lk")) | (with_reducible refine' Scr.sq ?k9; (case k9 => tm_at "ls")) | fail)
local macro_rules | `(tactic| tm_at "sqt") => `(tactic| first | (with_reducible refine' sqt ?k9; (case k9 => tm_at "lk")) | fail)
local macro_rules | `(tactic| tm_at "bt") => `(tactic| first | with_reducible assumption | (with_reducible refine' Bt.mul ?k1 ?k2; (case k1 => tm_at "bt"); (case k2 => tm_at "bt")) | (with_reducible refine' Bt.addM ?k1 ?k2; (case k1 => tm_at "bt"); (case k2 => tm_at "bt")) | (with_reducible refine' Bt.subM ?k1 ?k2; (case k1 => tm_at "bt"); (case k2 => tm_at "bt")) | (with_reducible refine' Bt.neg ?k1; (case k1 => tm_at "bt")) | fail)
local macro_rules | `(tactic| tm_at "bm") => `(tactic| first | with_reducible assumption | (with_reducible refine' Bt.mono ?k1 ?k2; (case k1 => with_reducible assumption); (case k2 => k_dflt decide)) | fail)
local macro_rules | `(tactic| tm_at "side") => `(tactic| first | with_reducible assumption | (with_reducible refine' Bt.cmul ?k1 ?k2 ?k3; (case k1 => tm_at "bt"); (case k2 => tm_at "bt"); (case k3 => k_dflt decide)) | (with_reducible refine cmul_of ?k1; (case k1 => omega)) | (with_reducible refine cpow_of ?k1; (case k1 => omega)) | (with_reducible refine cdivw_of ?k1; (case k1 => omega)) | (with_reducible refine cdivw_big ?k1; (case k1 => omega)) | (with_reducible refine cmulx_of ?k1; (case k1 => omega)) | omega | fail)
local macro_rules | `(tactic| tm_at "step") => `(tactic| first
  | with_reducible refine u_op ?_
  | (with_reducible refine' u_var ?k1 ?_; (case k1 => k_dflt rfl))
  | with_reducible refine u_c ?_
  | with_reducible refine u_I0 ?_
  | with_reducible refine u_seq ?_
  | with_reducible refine u_asg ?_
  | with_reducible refine g_name ?_
  | with_reducible refine u_cb ?_
  | with_reducible refine u_cons ?_
  | with_reducible refine u_nil ?_
  | (with_reducible refine' u_pow ?k1 ?k2 ?_; (case k1 => k_dflt (tm_at "side")); (case k2 => (conv => lhs; simp only [Int.reduceToNat, Int.reducePow]) <;> rfl))
  | (with_reducible refine' u_I ?k1 ?_; (case k1 => k_dflt (tm_at "side")))
  | with_reducible refine u_int1 ?_
  | with_reducible refine u_intB ?_
  | with_reducible refine u_if ?_
  | with_reducible refine u_test ?_
  | with_reducible refine u_tb ?_
  | with_reducible refine u_tB ?_
  | with_reducible refine u_eqI ?_
  | with_reducible refine u_neI ?_
  | with_reducible refine u_eqB ?_
  | with_reducible refine u_and ?_
  | with_reducible refine u_or ?_
  | with_reducible refine u_not ?_
  | with_reducible refine u_andV ?_
  | with_reducible refine u_orV ?_
  | with_reducible refine u_notV ?_
  | with_reducible refine br_t ?_
  | with_reducible refine br_f ?_
  | with_reducible refine br_nt ?_
  | with_reducible refine br_nf ?_
  | with_reducible refine br_n ?_
  | with_reducible refine u_ret ?_
  | with_reducible refine u_next ?_
  | with_reducible refine u_drop ?_
  | with_reducible refine u_un ?_
  | with_reducible refine u_U ?_
  | with_reducible refine u_call ?_
  | with_reducible refine u_fldN ?_
  | with_reducible refine g_sub ?_
  | with_reducible refine g_cons ?_
  | with_reducible refine g_nil ?_
  | with_reducible refine u_tpar ?_
  | (with_reducible refine u_absL ?_; intro m_ h1_ h2_)
  | (with_reducible refine u_maxL ?_; intro m_ h1_ h2_ h3_)
  | (with_reducible refine u_minL ?_; intro m_ h1_ h2_ h3_)
  | with_reducible refine u_gcd ?_
  | with_reducible refine u_isi_ii ?_
  | with_reducible refine u_isi_ib ?_
  | with_reducible refine u_isi_bb ?_
  | with_reducible refine u_tupN ?_
  | with_reducible refine u_lstN ?_
  | (with_reducible refine' u_ixL ?k1 ?k2 ?_; (case k1 => tm_at "sq"); (case k2 => first | with_reducible assumption | k_dflt rfl))
  | (with_reducible refine' u_ixT ?k1 ?k2 ?_; (case k1 => tm_at "sqt"); (case k2 => k_dflt rfl))
  | (with_reducible refine' g_tup ?k1 ?k2 ?_; (case k1 => tm_at "sqt"); (case k2 => k_dflt rfl))
  | (with_reducible refine' u_lenL ?k1 ?_; (case k1 => tm_at "sq"))
  | (with_reducible refine' u_lenT ?k1 ?_; (case k1 => tm_at "sqt"))
  | with_reducible refine u_for ?_
  | with_reducible refine u_iL ?_
  | with_reducible refine u_iT ?_
  | with_reducible refine u_r1 ?_
  | with_reducible refine u_r2 ?_
  | (with_reducible refine' u_iLq ?k1 ?_; (case k1 => tm_at "sq"))
  | (with_reducible refine' u_iTq ?k1 ?_; (case k1 => tm_at "sqt"))
  | (with_reducible refine' u_r1q ?k1 ?_; (case k1 => (constructor <;> omega)))
  | (with_reducible refine' u_r2q ?k1 ?_; (case k1 => (refine ⟨?_, ?_, ?_, ?_⟩ <;> omega)))
  | with_reducible refine u_lc ?_
  | with_reducible refine u_yes ?_
  | (with_reducible refine endQ ?k1 ?_; (case k1 => k_dflt rfl))
  | with_reducible refine u_meth ?_
  | with_reducible refine u_callS ?_
  | with_reducible refine u_bm ?_
  | (with_reducible refine' bm_list ?k1 ?_; (case k1 => tm_at "lk"))
  | (with_reducible refine' u_append ?k1 ?k2 ?_; (case k1 => tm_at "lk"); (case k2 => omega); intro H_ hk_ ho_)
  | (with_reducible refine' appE ?k1 ?k2 ?_; (case k1 => tm_at "lk"); (case k2 => omega); intro H_ hk_ ho_)
  | with_reducible refine u_sl ?_
  | with_reducible refine u_noPart ?_
  | with_reducible refine u_part ?_
  | with_reducible refine u_intq ?_
  | (with_reducible refine' u_slL ?k1 ?_; (case k1 => tm_at "sq"); intro p_ H_ hn_ hk_ ho_)
  | (with_reducible refine' n_tup ?k1 ?_; (case k1 => k_dflt (exact Nat.le_of_ble_eq_true rfl)); intro p_ H_ hn_ hk_ ho_)
  | (with_reducible refine' n_lst ?k1 ?_; (case k1 => k_dflt (exact Nat.le_of_ble_eq_true rfl)); intro p_ H_ hn_ hk_ ho_)
  | (with_reducible refine' s_list ?k1 ?k2 ?_; (case k1 => tm_at "lk"); (case k2 => k_dflt rfl); intro H_ hk_ ho_)
  | (with_reducible refine br_d ?_ ?_ <;> intro hc_) | fail)
local macro_rules | `(tactic| tm_at "run") => `(tactic| repeat' tm_at "step")
local macro_rules | `(tactic| tm_at "go") => `(tactic| ((try dsimp only [cxOf, Cx.nox, Cx.wish]); tm_at "run"))

local macro_rules | `(tactic| tm_at "step") => `(tactic| first | (with_reducible refine' k_draw ?k1 ?k2 ?_; (case k1 => tm_at "lp"); (case k2 => k_dflt omega); intro r_ H_ h0_ h1_ hk_ hp_) | fail)
local macro_rules | `(tactic| tm_at "step") => `(tactic| first | with_reducible refine k_int ?_ | fail)
local macro_rules | `(tactic| tm_at "step") => `(tactic| first | (with_reducible refine' k_pool ?k1 ?k2 ?_; (case k1 => tm_at "ls"); (case k2 => k_dflt (tm_at "side")); intro p_ H_ hn_ hk_ hp_) | fail)
/-! ## promises of the law's defs -/
structure Fr6 (H : Hp) (p : Addr) (u d : Int) : Prop where
  e : H p = some (.tup [.int u, .int d])
  d1 : 1 ≤ d
  u0 : -1000000000000000000000000000000000000000000000000000000000000 < u
  u1 : u < 1000000000000000000000000000000000000000000000000000000000000
  d2 : d < 1000000000000000000000000000000000000000000000000000000000000
def spSize : Sp := fun vs H Q _ => ∃ (a : Addr), vs = [.ref a] ∧ Pool H a ∧ ∀ r H', 0 ≤ r → r < 1000000000000000000000000000000000000000000000000000000000000 → Kp [a] H H' → Pool H' a → Q (.int r) H'
def spFrac6 : Sp := fun vs H Q _ => ∃ (a : Addr), vs = [.ref a] ∧ Pool H a ∧ ∀ p u d H', Kp [a] H H' → Pool H' a → Fr6 H' p u d → Q (.ref p) H'
def spLow : Sp := fun vs H Q _ => ∃ (u d : Int), vs = [.int u, .int d] ∧ 1 ≤ d ∧ Bt 8500 d ∧ ∀ p H' t b, H p = none → Kp [] H H' → H' p = some (.tup [.int t, .int b]) → Fr.Fr t b u d → Q (.ref p) H'
/-- some text of at most n signs, drawn -/
def spTxt (n : Nat) : Sp := fun vs H Q _ => ∃ (a : Addr), vs = [.ref a] ∧ Pool H a ∧ ∀ z H', Str.length z ≤ n → Kp [a] H H' → Pool H' a → Q (.str z) H'
def spChg : Sp := fun vs H Q _ => ∃ (a : Addr) (x : Str), vs = [.ref a, .str x] ∧ Pool H a ∧ x.length ≤ 20000 ∧ ∀ z H', Str.length z ≤ 2 * x.length + 1 → Kp [a] H H' → Pool H' a → Q (.str z) H'
def spOdd : Sp := fun vs H Q _ => ∃ (a : Addr) (x y : Str), vs = [.ref a, .str x, .str y] ∧ Pool H a ∧ x.length ≤ 1000 ∧ y.length ≤ 1000 ∧ ∀ z H', Str.length z ≤ 5000 → Kp [a] H H' → Pool H' a → Q (.str z) H'
def spSec : Sp := fun vs H Q _ => ∃ (a p : Addr) (t b : Int), vs = [.ref a, .ref p] ∧ Pool H a ∧ H p = some (.tup [.int t, .int b]) ∧ Bt 200 t ∧ Bt 200 b ∧ ∀ z H', Str.length z ≤ 20000 → Kp [a] H H' → Pool H' a → Q (.str z) H'
section
variable {H : Hp} {Q : VK} {E : XK}
theorem k_size {a : Addr} (hp : Pool H a) (k : ∀ r H', 0 ≤ r → r < 1000000000000000000000000000000000000000000000000000000000000 → Kp [a] H H' → Pool H' a → Q (.int r) H') : spSize ([.ref a] ++ []) H Q E := ⟨a, rfl, hp, k⟩
theorem k_frac6 {a : Addr} (hp : Pool H a) (k : ∀ p u d H', Kp [a] H H' → Pool H' a → Fr6 H' p u d → Q (.ref p) H') : spFrac6 ([.ref a] ++ []) H Q E := ⟨a, rfl, hp, k⟩
theorem k_low {u d : Int} {vs : List V} (hv : vs = [.int u, .int d]) (d1 : 1 ≤ d) (bd : Bt 8500 d) (k : ∀ p H' t b, H p = none → Kp [] H H' → H' p = some (.tup [.int t, .int b]) → Fr.Fr t b u d → Q (.ref p) H') : spLow vs H Q E := ⟨u, d, hv, d1, bd, k⟩
theorem k_txt {a : Addr} {n : Nat} (hp : Pool H a) (k : ∀ z H', Str.length z ≤ n → Kp [a] H H' → Pool H' a → Q (.str z) H') : spTxt n ([.ref a] ++ []) H Q E := ⟨a, rfl, hp, k⟩
theorem k_chg {a : Addr} {x : Str} (hp : Pool H a) (hx : x.length ≤ 20000) (k : ∀ z H', Str.length z ≤ 2 * x.length + 1 → Kp [a] H H' → Pool H' a → Q (.str z) H') : spChg ([.ref a, .str x] ++ []) H Q E := ⟨a, x, rfl, hp, hx, k⟩
theorem k_odd {a : Addr} {x y : Str} (hp : Pool H a) (hx : x.length ≤ 1000) (hy : y.length ≤ 1000) (k : ∀ z H', Str.length z ≤ 5000 → Kp [a] H H' → Pool H' a → Q (.str z) H') : spOdd ([.ref a, .str x, .str y] ++ []) H Q E := ⟨a, x, y, rfl, hp, hx, hy, k⟩
theorem k_sec {a p : Addr} {t b : Int} (hp : Pool H a) (h : H p = some (.tup [.int t, .int b])) (bt : Bt 200 t) (bb : Bt 200 b) (k : ∀ z H', Str.length z ≤ 20000 → Kp [a] H H' → Pool H' a → Q (.str z) H') : spSec ([.ref a, .ref p] ++ []) H Q E := ⟨a, p, t, b, rfl, hp, h, bt, bb, k⟩
end
local macro_rules | `(tactic| tm_at "step") => `(tactic| first | (with_reducible refine' k_size ?k1 ?_; (case k1 => tm_at "lp"); intro r_ H_ h0_ h1_ hk_ hp_) | fail)
local macro_rules | `(tactic| tm_at "step") => `(tactic| first | (with_reducible refine' k_frac6 ?k1 ?_; (case k1 => tm_at "lp"); intro p_ u_ d_ H_ hk_ hp_ hf_) | fail)
local macro_rules | `(tactic| tm_at "step") => `(tactic| first | (with_reducible refine' k_low ?k0 ?k1 ?k2 ?_; (case k0 => k_dflt rfl); (case k1 => tm_at "b1"); (case k2 => tm_at "bm"); intro p_ H_ t_ b_ hn_ hk_ ho_ hf_) | fail)
local macro_rules | `(tactic| tm_at "step") => `(tactic| first | (with_reducible refine' k_txt ?k1 ?_; (case k1 => tm_at "lp"); intro z_ H_ hz_ hk_ hp_) | fail)
local macro_rules | `(tactic| tm_at "step") => `(tactic| first | (with_reducible refine' k_chg ?k1 ?k2 ?_; (case k1 => tm_at "lp"); (case k2 => omega); intro z_ H_ hz_ hk_ hp_) | fail)
local macro_rules | `(tactic| tm_at "step") => `(tactic| first | (with_reducible refine' k_odd ?k1 ?k2 ?k3 ?_; (case k1 => tm_at "lp"); (case k2 => omega); (case k3 => omega); intro z_ H_ hz_ hk_ hp_) | fail)
local macro_rules | `(tactic| tm_at "step") => `(tactic| first | (with_reducible refine' k_sec ?k1 ?k2 ?k3 ?k4 ?_; (case k1 => tm_at "lp"); (case k2 => tm_at "lk"); (case k3 => with_reducible assumption); (case k4 => with_reducible assumption); intro z_ H_ hz_ hk_ hp_) | fail)

theorem f_addB {a b : Str} {m n : Nat} {H : Hp} {Q : VK} (ha : a.length ≤ m) (hb : b.length ≤ n) (hmn : m + n ≤ 100000) (k : ∀ z, Str.length z ≤ m + n → Q (.str z) H) : rAddS (.str a) (.str b) H Q := u_addS (Nat.le_trans (Nat.add_le_add ha hb) hmn) (k _ (by rw [Str.length_append]; exact Nat.add_le_add ha hb))
local macro_rules | `(tactic| tm_at "step") => `(tactic| first
  | (with_reducible refine' f_addB ?k1 ?k2 ?k3 ?_; (case k1 => with_reducible assumption); (case k2 => with_reducible assumption); (case k3 => k_dflt (exact Nat.le_of_ble_eq_true rfl)); intro z_ hz_)
  | (with_reducible refine' u_catL ?k1 ?k2 ?k3 ?_; (case k1 => tm_at "lk"); (case k2 => tm_at "lk"); (case k3 => k_dflt (exact Nat.le_of_ble_eq_true rfl)); intro p_ H_ hn_ hk_ ho_)
  | fail)
def AllS (n : Nat) (xs : List V) : Prop := ∀ v ∈ xs, ∃ z : Str, v = .str z ∧ z.length ≤ n
theorem all_nil {n : Nat} : AllS n [] := fun v h => by cases h
theorem all_cons {n m : Nat} {z : Str} {xs : List V} (h : z.length ≤ m) (hm : m ≤ n) (t : AllS n xs) : AllS n (V.str z :: xs) := fun v hv => by
  rcases List.mem_cons.mp hv with rfl | hv
  · exact ⟨z, rfl, Nat.le_trans h hm⟩
  · exact t v hv
theorem all_app {n : Nat} {xs ys : List V} (h : AllS n xs) (t : AllS n ys) : AllS n (xs ++ ys) := fun v hv => by
  rcases List.mem_append.mp hv with hv | hv
  · exact h v hv
  · exact t v hv
theorem fin_odd {a p : Addr} {xs : List V} {H : Hp} {Q : VK} {K : PySem.W.Frag} (hp : Pool H a) (hl : H p = some (.lst xs)) (npa : p ≠ a) (hn : 1 ≤ xs.length ∧ xs.length ≤ 1000) (al : AllS 5000 xs) (k : ∀ z H', Str.length z ≤ 5000 → Kp [a] H H' → Pool H' a → Q (.str z) H') :
    spDraw ([.ref a, .int (xs.length : Int)] ++ []) H (fun y H2 => rIxL K (.ref p) y H2 Q) E0 := by
  refine k_draw hp (by omega) fun r H' r0 r1 hk hp' => ?_
  obtain ⟨v, hv, hm⟩ := atI_mem (xs := xs) r0 (by omega)
  obtain ⟨z, rfl, lz⟩ := al v hm
  exact u_ixL (sql (hk.get1 npa hl)) hv (k z H' lz hk hp')
section
variable {P : Program} {w : World} {K : PySem.W.Frag} {mg : Str → Option Value} {base : Heap} {CShare COddsError CBadShare CBadText CBadBook CBadMove CBadProgram CBadPlan CUnfit CTooLarge CBadEdit : Addr}
theorem ok_l_odd_text (T : Txt K mg CShare COddsError CBadShare CBadText CBadBook CBadMove CBadProgram CBadPlan CUnfit CTooLarge CBadEdit) : Fc P w K mg base CX0 2 "_law_odd_text" ["pool", "top", "low"] (spOdd) := by
  refine fc_of T.d_l_odd_text sc_l_odd_text (fun vs H Q E h => by obtain ⟨a, x, y, rfl, hp, hx, hy, k⟩ := h; rfl) (fun _ _ _ _ _ _ us hl => match us, hl with | [_, _, _], _ => rfl) fun f cdv A outer s H vs Q E hr h => ⟨_, (pss_cons (ps_set (i := 3) sc_l_odd_text.nd rfl (Or.inl rfl) (pe_op o_addS (pe_op o_addS (pv 1) pe_str) (pv 2)))
 (pss_cons (ps_set (i := 4) sc_l_odd_text.nd rfl (Or.inl rfl) (pe_lst (pa_cons pe_str (pa_cons pe_str (pa_cons pe_str (pa_cons (pv 1) (pa_cons (pv 2) (pa_cons (pe_op o_addS (pv 1) pe_str) (pa_cons (pe_op o_addS pe_str (pv 2)) (pa_cons (pe_op o_addS pe_str (pv 3)) (pa_cons (pe_op o_addS pe_str (pv 3)) (pa_cons (pe_op o_addS pe_str (pv 3)) (pa_cons (pe_op o_addS (pe_op o_addS (pv 1) pe_str) (pv 2)) pa_nil)))))))))))))
 (pss_cons (ps_set (i := 4) sc_l_odd_text.nd rfl (Or.inl rfl) (pe_op o_catL (pv 4) (pe_lst (pa_cons (pe_op o_addS (pe_op o_addS (pv 1) pe_str) (pv 2)) (pa_cons (pe_op o_addS (pe_op o_addS (pv 1) pe_str) (pv 2)) (pa_cons (pe_op o_addS (pe_op o_addS (pv 1) pe_str) (pv 2)) (pa_cons (pe_op o_addS (pv 3) pe_str) (pa_cons (pe_op o_addS (pv 3) pe_str) (pa_cons (pe_op o_addS pe_str (pv 3)) pa_nil)))))))))
 (pss_cons (ps_set (i := 4) sc_l_odd_text.nd rfl (Or.inl rfl) (pe_op o_catL (pv 4) (pe_lst (pa_cons (pe_op o_addS (pv 3) pe_str) (pa_cons (pe_op o_addS (pe_op o_addS (pv 1) pe_str) (pv 2)) (pa_cons (pe_op o_addS (pe_op o_addS (pv 1) pe_str) (pv 2)) (pa_cons (pe_op o_addS (pe_op o_addS (pv 1) pe_str) (pv 2)) (pa_cons (pe_op o_addS (pv 1) pe_str) (pa_cons (pe_op o_addS pe_str (pv 2)) (pa_cons pe_str pa_nil))))))))))
 (pss_cons (ps_set (i := 4) sc_l_odd_text.nd rfl (Or.inl rfl) (pe_op o_catL (pv 4) (pe_lst (pa_cons pe_str (pa_cons pe_str (pa_cons (pe_op o_addS pe_str (pv 2)) (pa_cons (pe_op o_addS (pe_op o_addS (pv 1) pe_str) (pv 2)) (pa_cons pe_str (pa_cons (pe_op o_addS (pv 3) (pv 3)) pa_nil)))))))))
 (pss_cons (ps_if (pt_cmpR op_eq (pe_fc (ok_l_draw T) pass0 (hr.mono (by decide)) (pa_cons (pv 0) (pa_cons pe_int pa_nil))) pe_int (nomark _))
 (pss_one (ps_set (i := 4) sc_l_odd_text.nd rfl (Or.inl rfl) (pe_lst (pa_cons (pe_op o_addS (pv 3) pe_str) (pa_cons (pe_op o_addS pe_str (pv 3)) (pa_cons (pe_op o_addS (pv 3) pe_str) (pa_cons (pe_op o_addS pe_str (pv 3)) pa_nil)))))))
 pss_nil)
 (pss_one (ps_ret (pe_ix (ixlK K) (pv 4) (pe_fc (ok_l_draw T) pass0 (hr.mono (by decide)) (pa_cons (pv 0) (pa_cons (pe_callB (lenK K) (by rfl) T.n_len b_len (pa_cons (pv 4) pa_nil)) pa_nil))) (fun _ _ => rfl)))))))))), ?_⟩
  obtain ⟨a, x, y, rfl, hp, hx, hy, k⟩ := h
  have c_0 : (Str.ofString "").length ≤ 0 := by decide +kernel
  have c_1 : (Str.ofString "/").length ≤ 1 := by decide +kernel
  have c_2 : (Str.ofString "-").length ≤ 1 := by decide +kernel
  have c_3 : (Str.ofString "+").length ≤ 1 := by decide +kernel
  have c_4 : (Str.ofString "0").length ≤ 1 := by decide +kernel
  have c_5 : (Str.ofString "-0/1").length ≤ 4 := by decide +kernel
  have c_6 : (Str.ofString "0/0").length ≤ 3 := by decide +kernel
  have c_7 : (Str.ofString "00/1").length ≤ 4 := by decide +kernel
  have c_8 : (Str.ofString "1_0/3").length ≤ 5 := by decide +kernel
  have c_9 : (Str.ofString "/0").length ≤ 2 := by decide +kernel
  have c_10 : (Str.ofString "/1").length ≤ 2 := by decide +kernel
  have c_11 : (Str.ofString "\n").length ≤ 1 := by decide +kernel
  have c_12 : (Str.ofString " ").length ≤ 1 := by decide +kernel
  have c_13 : (Str.ofString "0/").length ≤ 2 := by decide +kernel
  have c_14 : (Str.ofString "-/").length ≤ 2 := by decide +kernel
  have c_15 : (Str.ofString "\t").length ≤ 1 := by decide +kernel
  have c_16 : (Str.ofString "//").length ≤ 2 := by decide +kernel
  have c_17 : (Str.ofString "/-").length ≤ 2 := by decide +kernel
  have c_18 : (Str.ofString "/+").length ≤ 2 := by decide +kernel
  have c_19 : (Str.ofString " /").length ≤ 2 := by decide +kernel
  have c_20 : (Str.ofString "/ ").length ≤ 2 := by decide +kernel
  have c_21 : (Str.ofString "\\").length ≤ 1 := by decide +kernel
  have c_22 : (Str.ofString ".0/").length ≤ 3 := by decide +kernel
  tm_at "go"
  all_goals
    refine fin_odd (Q := Q) (by tm_at "lp") (by tm_at "lk") (by tm_at "ne") (by constructor <;> exact Nat.le_of_ble_eq_true rfl) ?_ (fun z H' l k1 p1 => k _ _ l (by tm_at "kc") p1)
    repeat' first
      | with_reducible exact all_nil
      | (with_reducible refine all_app ?_ ?_)
      | (with_reducible refine' all_cons ?k1 ?k2 ?_; (case k1 => with_reducible assumption); (case k2 => exact Nat.le_of_ble_eq_true rfl))

end
end My
set_option Elab.async false
set_option linter.all false
set_option autoImplicit false
set_option maxRecDepth 100000
set_option maxHeartbeats 4000000
namespace My
open PySem PySem.Spec PyProof.Rows L2 U
/-! my own steps: rows of tactics, tried from above -/
local macro_rules | `(tactic| tm_at "lk") => `(tactic| first | with_reducible assumption | (with_reducible refine' Kp.get0 ?k1 ?k2; (case k1 => with_reducible assumption); (case k2 => tm_at "lk")) | (with_reducible refine' Kp.get1 ?k1 ?k3 ?k2; (case k1 => with_reducible assumption); (case k3 => tm_at "ne"); (case k2 => tm_at "lk")) | fail)
local macro_rules | `(tactic| tm_at "lp") => `(tactic| first | with_reducible assumption | (with_reducible refine' Pool.kp0 ?k1 ?k2; (case k1 => with_reducible assumption); (case k2 => tm_at "lp")) | (with_reducible refine' Pool.kp1 ?k1 ?k3 ?k2; (case k1 => with_reducible assumption); (case k3 => tm_at "ne"); (case k2 => tm_at "lp")) | fail)
local macro_rules | `(tactic| tm_at "ls") => `(tactic| first | with_reducible assumption | (with_reducible refine' Scr.kp0 ?k1 ?k2; (case k1 => with_reducible assumption); (case k2 => tm_at "ls")) | (with_reducible refine' Scr.kp1 ?k1 ?k3 ?k4 ?k2; (case k1 => with_reducible assumption); (case k3 => with_reducible assumption); (case k4 => tm_at "ls"); (case k2 => tm_at "ls")) | fail)
local macro_rules | `(tactic| tm_at "ne") => `(tactic| first | with_reducible assumption | (with_reducible refine' Ne.symm ?k1; with_reducible assumption) | (with_reducible refine' ne_new ?k1 ?k2; (case k1 => with_reducible assumption); (case k2 => tm_at "lk")) | (with_reducible refine' ne_new' ?k1 ?k2; (case k1 => with_reducible assumption); (case k2 => tm_at "lk")) | (with_reducible refine' Pool.ne ?k1 ?k2; (case k1 => with_reducible assumption); (case k2 => tm_at "lp")) | (with_reducible refine' Ne.symm (Pool.ne ?k1 ?k2); (case k1 => with_reducible assumption); (case k2 => tm_at "lp")) | fail)
local macro_rules | `(tactic| tm_at "kc") => `(tactic| first | with_reducible assumption | with_reducible exact Kp.refl | (with_reducible refine' Kp.trans ?k1 (Kp.of0 ?k2); (case k2 => with_reducible assumption); (case k1 => tm_at "kc")) | (with_reducible refine' Kp.trans ?k1 ?k2; (case k2 => with_reducible assumption); (case k1 => tm_at "kc")) | (with_reducible refine' Kp.low' ?k1 ?k2 ?k3 ?k4; (case k2 => with_reducible assumption); (case k3 => with_reducible assumption); (case k1 => tm_at "kc"); (case k4 => tm_at "kc")) | fail)
local macro_rules | `(tactic| tm_at "sq") => `(tactic| first | (with_reducible refine' sql ?k9; (case k9 => tm_at "lk")) | (with_reducible refine' Scr.sq ?k9; (case k9 => tm_at "ls")) | fail)
local macro_rules | `(tactic| tm_at "sqt") => `(tactic| first | (with_reducible refine' sqt ?k9; (case k9 => tm_at "lk")) | fail)
local macro_rules | `(tactic| tm_at "bt") => `(tactic| first | with_reducible assumption | (with_reducible refine' Bt.mul ?k1 ?k2; (case k1 => tm_at "bt"); (case k2 => tm_at "bt")) | (with_reducible refine' Bt.addM ?k1 ?k2; (case k1 => tm_at "bt"); (case k2 => tm_at "bt")) | (with_reducible refine' Bt.subM ?k1 ?k2; (case k1 => tm_at "bt"); (case k2 => tm_at "bt")) | (with_reducible refine' Bt.neg ?k1; (case k1 => tm_at "bt")) | fail)
local macro_rules | `(tactic| tm_at "bm") => `(tactic| first | with_reducible assumption | (with_reducible refine' Bt.mono ?k1 ?k2; (case k1 => with_reducible assumption); (case k2 => k_dflt decide)) | fail)
local macro_rules | `(tactic| tm_at "side") => `(tactic| first | with_reducible assumption | (with_reducible refine' Bt.cmul ?k1 ?k2 ?k3; (case k1 => tm_at "bt"); (case k2 => tm_at "bt"); (case k3 => k_dflt decide)) | (with_reducible refine cmul_of ?k1; (case k1 => omega)) | (with_reducible refine cpow_of ?k1; (case k1 => omega)) | (with_reducible refine cdivw_of ?k1; (case k1 => omega)) | (with_reducible refine cdivw_big ?k1; (case k1 => omega)) | (with_reducible refine cmulx_of ?k1; (case k1 => omega)) | omega | fail)
local macro_rules | `(tactic| tm_at "step") => `(tactic| first
  | with_reducible refine u_op ?_
  | (with_reducible refine' u_var ?k1 ?_; (case k1 => k_dflt rfl))
  | with_reducible refine u_c ?_
  | with_reducible refine u_I0 ?_
  | with_reducible refine u_seq ?_
  | with_reducible refine u_asg ?_
  | with_reducible refine g_name ?_
  | with_reducible refine u_cb ?_
  | with_reducible refine u_cons ?_
  | with_reducible refine u_nil ?_
  | (with_reducible refine' u_pow ?k1 ?k2 ?_; (case k1 => k_dflt (tm_at "side")); (case k2 => (conv => lhs; simp only [Int.reduceToNat, Int.reducePow]) <;> rfl))
  | (with_reducible refine' u_I ?k1 ?_; (case k1 => k_dflt (tm_at "side")))
  | with_reducible refine u_int1 ?_
  | with_reducible refine u_intB ?_
  | with_reducible refine u_if ?_
  | with_reducible refine u_test ?_
  | with_reducible refine u_tb ?_
  | with_reducible refine u_tB ?_
  | with_reducible refine u_eqI ?_
  | with_reducible refine u_neI ?_
  | with_reducible refine u_eqB ?_
  | with_reducible refine u_and ?_
  | with_reducible refine u_or ?_
  | with_reducible refine u_not ?_
  | with_reducible refine u_andV ?_
  | with_reducible refine u_orV ?_
  | with_reducible refine u_notV ?_
  | with_reducible refine br_t ?_
  | with_reducible refine br_f ?_
  | with_reducible refine br_nt ?_
  | with_reducible refine br_nf ?_
  | with_reducible refine br_n ?_
  | with_reducible refine u_ret ?_
  | with_reducible refine u_next ?_
  | with_reducible refine u_drop ?_
  | with_reducible refine u_un ?_
  | with_reducible refine u_U ?_
  | with_reducible refine u_call ?_
  | with_reducible refine u_fldN ?_
  | with_reducible refine g_sub ?_
  | with_reducible refine g_cons ?_
  | with_reducible refine g_nil ?_
  | with_reducible refine u_tpar ?_
  | (with_reducible refine u_absL ?_; intro m_ h1_ h2_)
  | (with_reducible refine u_maxL ?_; intro m_ h1_ h2_ h3_)
  | (with_reducible refine u_minL ?_; intro m_ h1_ h2_ h3_)
  | with_reducible refine u_gcd ?_
  | with_reducible refine u_isi_ii ?_
  | with_reducible refine u_isi_ib ?_
  | with_reducible refine u_isi_bb ?_
  | with_reducible refine u_tupN ?_
  | with_reducible refine u_lstN ?_
  | (with_reducible refine' u_ixL ?k1 ?k2 ?_; (case k1 => tm_at "sq"); (case k2 => first | with_reducible assumption | k_dflt rfl))
  | (with_reducible refine' u_ixT ?k1 ?k2 ?_; (case k1 => tm_at "sqt"); (case k2 => k_dflt rfl))
  | (with_reducible refine' g_tup ?k1 ?k2 ?_; (case k1 => tm_at "sqt"); (case k2 => k_dflt rfl))
  | (with_reducible refine' u_lenL ?k1 ?_; (case k1 => tm_at "sq"))
  | (with_reducible refine' u_lenT ?k1 ?_; (case k1 => tm_at "sqt"))
  | with_reducible refine u_for ?_
  | with_reducible refine u_iL ?_
  | with_reducible refine u_iT ?_
  | with_reducible refine u_r1 ?_
  | with_reducible refine u_r2 ?_
  | (with_reducible refine' u_iLq ?k1 ?_; (case k1 => tm_at "sq"))
  | (with_reducible refine' u_iTq ?k1 ?_; (case k1 => tm_at "sqt"))
  | (with_reducible refine' u_r1q ?k1 ?_; (case k1 => (constructor <;> omega)))
  | (with_reducible refine' u_r2q ?k1 ?_; (case k1 => (refine ⟨?_, ?_, ?_, ?_⟩ <;> omega)))
  | with_reducible refine u_lc ?_
  | with_reducible refine u_yes ?_
  | (with_reducible refine endQ ?k1 ?_; (case k1 => k_dflt rfl))
  | with_reducible refine u_meth ?_
  | with_reducible refine u_callS ?_
  | with_reducible refine u_bm ?_
  | (with_reducible refine' bm_list ?k1 ?_; (case k1 => tm_at "lk"))
  | (with_reducible refine' u_append ?k1 ?k2 ?_; (case k1 => tm_at "lk"); (case k2 => omega); intro H_ hk_ ho_)
  | (with_reducible refine' appE ?k1 ?k2 ?_; (case k1 => tm_at "lk"); (case k2 => omega); intro H_ hk_ ho_)
  | with_reducible refine u_sl ?_
  | with_reducible refine u_noPart ?_
  | with_reducible refine u_part ?_
  | with_reducible refine u_intq ?_
  | (with_reducible refine' u_slL ?k1 ?_; (case k1 => tm_at "sq"); intro p_ H_ hn_ hk_ ho_)
  | (with_reducible refine' n_tup ?k1 ?_; (case k1 => k_dflt (exact Nat.le_of_ble_eq_true rfl)); intro p_ H_ hn_ hk_ ho_)
  | (with_reducible refine' n_lst ?k1 ?_; (case k1 => k_dflt (exact Nat.le_of_ble_eq_true rfl)); intro p_ H_ hn_ hk_ ho_)
  | (with_reducible refine' s_list ?k1 ?k2 ?_; (case k1 => tm_at "lk"); (case k2 => k_dflt rfl); intro H_ hk_ ho_)
  | (with_reducible refine br_d ?_ ?_ <;> intro hc_) | fail)
local macro_rules | `(tactic| tm_at "run") => `(tactic| repeat' tm_at "step")
local macro_rules | `(tactic| tm_at "go") => `(tactic| ((try dsimp only [cxOf, Cx.nox, Cx.wish]); tm_at "run"))

local macro_rules | `(tactic| tm_at "sh") => `(tactic| first | with_reducible assumption | (with_reducible refine' ShAt.kp0 ?k1 ?k2; (case k1 => with_reducible assumption); (case k2 => tm_at "sh")) | (with_reducible refine' ShAt.kp1 ?k1 ?k3 ?k2; (case k1 => with_reducible assumption); (case k3 => tm_at "ne"); (case k2 => tm_at "sh")) | fail)
local macro_rules | `(tactic| tm_at "step") => `(tactic| first | (with_reducible refine' fld_top (by assumption) ?k1 ?_; (case k1 => tm_at "sh")) | fail)
local macro_rules | `(tactic| tm_at "step") => `(tactic| first | (with_reducible refine' fld_bottom (by assumption) ?k1 ?_; (case k1 => tm_at "sh")) | fail)
local macro_rules | `(tactic| tm_at "step") => `(tactic| first | (with_reducible refine' isi_share (by assumption) ?k1 ?_; (case k1 => tm_at "sh")) | fail)
local macro_rules | `(tactic| tm_at "step") => `(tactic| first | with_reducible refine u_newI ?_ | fail)
local macro_rules | `(tactic| tm_at "step") => `(tactic| first | with_reducible refine u_newK ?_ | fail)
local macro_rules | `(tactic| tm_at "step") => `(tactic| first | with_reducible refine newK rfl rfl ?_ | fail)
local macro_rules | `(tactic| tm_at "step") => `(tactic| first | with_reducible refine u_sfld ?_ | fail)
local macro_rules | `(tactic| tm_at "b1") => `(tactic| first | with_reducible assumption | omega)
local macro_rules | `(tactic| tm_at "step") => `(tactic| first | (with_reducible refine' k_opA ?k1 ?k2 ?k3 ?k4 ?k5 ?k6 ?k7 ?k8 ?k9 ?k10 ?_; (case k1 => tm_at "sh"); (case k2 => tm_at "sh"); (case k3 => tm_at "b1"); (case k4 => tm_at "b1"); (case k5 => with_reducible assumption); (case k6 => with_reducible assumption); (case k7 => with_reducible assumption); (case k8 => with_reducible assumption); (case k9 => k_dflt decide); (case k10 => k_dflt decide); intro r_ H_ x_ y_ hn_ hk_ hs_ hf_ hy_ hbx_ hby_) | fail)
local macro_rules | `(tactic| tm_at "step") => `(tactic| first | (with_reducible refine' k_opS ?k1 ?k2 ?k3 ?k4 ?k5 ?k6 ?k7 ?k8 ?k9 ?k10 ?_; (case k1 => tm_at "sh"); (case k2 => tm_at "sh"); (case k3 => tm_at "b1"); (case k4 => tm_at "b1"); (case k5 => with_reducible assumption); (case k6 => with_reducible assumption); (case k7 => with_reducible assumption); (case k8 => with_reducible assumption); (case k9 => k_dflt decide); (case k10 => k_dflt decide); intro r_ H_ x_ y_ hn_ hk_ hs_ hf_ hy_ hbx_ hby_) | fail)
local macro_rules | `(tactic| tm_at "step") => `(tactic| first | (with_reducible refine' k_opM ?k1 ?k2 ?k3 ?k4 ?k5 ?k6 ?k7 ?k8 ?k9 ?k10 ?_; (case k1 => tm_at "sh"); (case k2 => tm_at "sh"); (case k3 => tm_at "b1"); (case k4 => tm_at "b1"); (case k5 => with_reducible assumption); (case k6 => with_reducible assumption); (case k7 => with_reducible assumption); (case k8 => with_reducible assumption); (case k9 => k_dflt decide); (case k10 => k_dflt decide); intro r_ H_ x_ y_ hn_ hk_ hs_ hf_ hy_ hbx_ hby_) | fail)
local macro_rules | `(tactic| tm_at "step") => `(tactic| first | (with_reducible refine' k_draw ?k1 ?k2 ?_; (case k1 => tm_at "lp"); (case k2 => k_dflt omega); intro r_ H_ h0_ h1_ hk_ hp_) | fail)
local macro_rules | `(tactic| tm_at "step") => `(tactic| first | with_reducible refine k_int ?_ | fail)
local macro_rules | `(tactic| tm_at "step") => `(tactic| first | (with_reducible refine' k_pool ?k1 ?k2 ?_; (case k1 => tm_at "ls"); (case k2 => k_dflt (tm_at "side")); intro p_ H_ hn_ hk_ hp_) | fail)
local macro_rules | `(tactic| tm_at "ln") => `(tactic| first | with_reducible assumption | omega | (simp only [SX.S_len, Str.length_append]; omega) | fail)
local macro_rules | `(tactic| tm_at "lg") => `(tactic| first | with_reducible assumption | (with_reducible refine' bt_log ?k1; (case k1 => tm_at "bm")) | fail)
local macro_rules | `(tactic| tm_at "step") => `(tactic| first
  | with_reducible refine u_eqS ?_
  | with_reducible refine u_neS ?_
  | with_reducible refine bm_str ?_
  | with_reducible refine u_bm0 ?_
  | with_reducible refine u_find ?_
  | with_reducible refine u_asc ?_
  | with_reducible refine u_dgt ?_
  | with_reducible refine u_inS ?_
  | with_reducible refine u_niS ?_
  | with_reducible refine u_isNn ?_
  | with_reducible refine u_isNr ?_
  | (with_reducible refine' u_partS ?k1 ?k2 ?_; (case k1 => k_dflt rfl); (case k2 => tm_at "ln"); intro p_ H_ hn_ hk_ ho_)
  | (with_reducible refine' u_rmp ?k1 ?_; (case k1 => tm_at "ln"))
  | (with_reducible refine' u_addS ?k1 ?_; (case k1 => tm_at "ln"))
  | (with_reducible refine' u_lenS ?k1 ?_; (case k1 => tm_at "ln"))
  | (with_reducible refine' u_strI ?k1 ?_; (case k1 => tm_at "lg"))
  | (with_reducible refine' u_slX ?k1 ?_; (case k1 => tm_at "ln"))
  | with_reducible refine u_iS ?_
  | with_reducible refine u_iSq ?_
  | with_reducible refine u_join ?_
  | with_reducible refine js_cons ?_
  | with_reducible refine js_nil ?_
  | (with_reducible refine' jsQ ?k1 ?_; (case k1 => tm_at "ln"))
  | with_reducible refine u_fmt ?_
  | (with_reducible refine' fmtI ?k1 ?_; (case k1 => tm_at "lg"))
  | with_reducible refine u_smQ ?_
  | with_reducible refine smQ ?_
  | with_reducible refine u_smI ?_
  | (with_reducible refine' u_catL ?k1 ?k2 ?k3 ?_; (case k1 => tm_at "lk"); (case k2 => tm_at "lk"); (case k3 => k_dflt (exact Nat.le_of_ble_eq_true rfl)); intro p_ H_ hn_ hk_ ho_)
  | fail)
local macro_rules | `(tactic| tm_at "step") => `(tactic| first
  | (with_reducible refine' u_partN ?k0 ?k1 ?k2 ?_; (case k0 => with_reducible assumption); (case k1 => k_dflt rfl); (case k2 => tm_at "ln"); intro p_ H_ hn_ hk_ ho_)
  | (with_reducible refine' u_rmpN ?k0 ?k1 ?_; (case k0 => with_reducible assumption); (case k1 => tm_at "ln"))
  | (with_reducible refine' u_findN ?k0 ?_; (case k0 => with_reducible assumption))
  | (with_reducible refine' u_slN ?k0 ?k1 ?_; (case k0 => with_reducible assumption); (case k1 => tm_at "ln"))
  | (with_reducible refine' u_intS ?k0 ?k1 ?_; (case k0 => with_reducible assumption); (case k1 => tm_at "ln"))
  | fail)
local macro_rules | `(tactic| tm_at "step") => `(tactic| first | (with_reducible refine' k_size ?k1 ?_; (case k1 => tm_at "lp"); intro r_ H_ h0_ h1_ hk_ hp_) | fail)
local macro_rules | `(tactic| tm_at "step") => `(tactic| first | (with_reducible refine' k_frac6 ?k1 ?_; (case k1 => tm_at "lp"); intro p_ u_ d_ H_ hk_ hp_ hf_) | fail)
local macro_rules | `(tactic| tm_at "step") => `(tactic| first | (with_reducible refine' k_low ?k0 ?k1 ?k2 ?_; (case k0 => k_dflt rfl); (case k1 => tm_at "b1"); (case k2 => tm_at "bm"); intro p_ H_ t_ b_ hn_ hk_ ho_ hf_) | fail)
local macro_rules | `(tactic| tm_at "step") => `(tactic| first | (with_reducible refine' k_txt ?k1 ?_; (case k1 => tm_at "lp"); intro z_ H_ hz_ hk_ hp_) | fail)
local macro_rules | `(tactic| tm_at "step") => `(tactic| first | (with_reducible refine' k_chg ?k1 ?k2 ?_; (case k1 => tm_at "lp"); (case k2 => omega); intro z_ H_ hz_ hk_ hp_) | fail)
local macro_rules | `(tactic| tm_at "step") => `(tactic| first | (with_reducible refine' k_odd ?k1 ?k2 ?k3 ?_; (case k1 => tm_at "lp"); (case k2 => omega); (case k3 => omega); intro z_ H_ hz_ hk_ hp_) | fail)
local macro_rules | `(tactic| tm_at "step") => `(tactic| first | (with_reducible refine' k_sec ?k1 ?k2 ?k3 ?k4 ?_; (case k1 => tm_at "lp"); (case k2 => tm_at "lk"); (case k3 => with_reducible assumption); (case k4 => with_reducible assumption); intro z_ H_ hz_ hk_ hp_) | fail)
/-! texts of which only the length is kept -/
theorem f_add {a b : Str} {H : Hp} {Q : VK} (h : a.length + b.length ≤ 100000) (k : ∀ z, Str.length z = a.length + b.length → Q (.str z) H) : rAddS (.str a) (.str b) H Q := u_addS h (k _ (Str.length_append a b))
theorem f_sl {a : Str} {lo hi : Option Int} {H : Hp} {Q : VK} (h : a.length ≤ 100000) (k : ∀ z, Str.length z ≤ a.length → Q (.str z) H) : C8.rSlX (.str a) lo hi H Q := u_slX h (k _ (PyProof.Txt.length_slice_le a lo hi))
theorem f_ix {a : Str} {i : Int} {H : Hp} {Q : VK} (ha : a.length ≤ 100000) (h0 : 0 ≤ i) (h1 : i < a.length) (k : ∀ c, Str.length ⟨#[c]⟩ = 1 → Q (.str ⟨#[c]⟩) H) : rIxS (.str a) (.int i) H Q := u_ixS ha h0 h1 fun c _ => k c rfl
theorem f_strI {i : Int} {H : Hp} {Q : VK} (h : Bt 1900 i) (k : ∀ z, Str.length z ≤ 601 → Q (.str z) H) : rStrI [.int i] H Q := u_strI (bt_log h) (k _ (by rw [Tx.str_int, SX.S_len]; exact iL_len h))
theorem f_rep {c : Nat} {i : Int} {H : Hp} {Q : VK} (h0 : 0 ≤ i) (h1 : i ≤ 10000) (k : ∀ z, (Str.length z : Int) = i → Q (.str z) H) : rRepS (.str ⟨#[c]⟩) (.int i) H Q := u_repS (by omega) (by omega) (k _ (by
  have e := PyProof.Rows.len_mul_k1 (x := ⟨#[c]⟩) (n := i) rfl
  rw [e, if_neg (by omega)]; omega))
local macro_rules | `(tactic| tm_at "step") => `(tactic| first
  | (with_reducible refine' f_add ?k1 ?_; (case k1 => omega); intro z_ hz_)
  | (with_reducible refine' f_sl ?k1 ?_; (case k1 => omega); intro z_ hz_)
  | (with_reducible refine' f_ix ?k1 ?k2 ?k3 ?_; (case k1 => omega); (case k2 => omega); (case k3 => omega); intro c_ hz_)
  | (with_reducible refine' f_strI ?k1 ?_; (case k1 => tm_at "bm"); intro z_ hz_)
  | (with_reducible refine' f_rep ?k1 ?k2 ?_; (case k1 => omega); (case k2 => omega); intro z_ hz_)
  | fail)
theorem f_repE {x : Str} {c : Nat} {i : Int} {H : Hp} {Q : VK} (e : x = ⟨#[c]⟩) (h0 : 0 ≤ i) (h1 : i ≤ 10000) (k : ∀ z, (Str.length z : Int) = i → Q (.str z) H) : rRepS (.str x) (.int i) H Q := by
  subst e
  exact f_rep h0 h1 k
local macro_rules | `(tactic| tm_at "step") => `(tactic| first | (with_reducible refine' f_repE ?k0 ?k1 ?k2 ?_; (case k0 => with_reducible assumption); (case k1 => omega); (case k2 => omega); intro z_ hz_) | fail)

section
variable {P : Program} {w : World} {K : PySem.W.Frag} {mg : Str → Option Value} {base : Heap} {CShare COddsError CBadShare CBadText CBadBook CBadMove CBadProgram CBadPlan CUnfit CTooLarge CBadEdit : Addr}
theorem ok_l_size (T : Txt K mg CShare COddsError CBadShare CBadText CBadBook CBadMove CBadProgram CBadPlan CUnfit CTooLarge CBadEdit) : Fc P w K mg base CX0 2 "_law_size" ["pool"] (spSize) := by
  refine fc_of T.d_l_size sc_l_size (fun vs H Q E h => by obtain ⟨a, rfl, hp, k⟩ := h; rfl) (fun _ _ _ _ _ _ us hl => match us, hl with | [_], _ => rfl) fun f cdv A outer s H vs Q E hr h => ⟨_, (pss_cons (ps_set (i := 1) sc_l_size.nd rfl (Or.inl rfl) (pe_fc (ok_l_draw T) pass0 (hr.mono (by decide)) (pa_cons (pv 0) (pa_cons pe_int pa_nil))))
 (pss_cons (ps_if (pt_cmpR op_eq (pv 1) pe_int (nomark _))
 (pss_one (ps_ret (pe_fc (ok_l_draw T) pass0 (hr.mono (by decide)) (pa_cons (pv 0) (pa_cons pe_int pa_nil)))))
 pss_nil)
 (pss_cons (ps_if (pt_cmpR op_eq (pv 1) pe_int (nomark _))
 (pss_one (ps_ret (pe_fc (ok_l_draw T) pass0 (hr.mono (by decide)) (pa_cons (pv 0) (pa_cons (pe_op op_pow pe_int pe_int) pa_nil)))))
 pss_nil)
 (pss_cons (ps_if (pt_cmpR op_eq (pv 1) pe_int (nomark _))
 (pss_one (ps_ret (pe_ix (ixlK K) (pe_lst (pa_cons (pe_op op_sub (pe_op op_pow pe_int pe_int) pe_int) (pa_cons (pe_op op_pow pe_int pe_int) (pa_cons (pe_op op_pow pe_int pe_int) (pa_cons (pe_op op_sub (pe_op op_pow pe_int pe_int) pe_int) (pa_cons (pe_op op_pow pe_int pe_int) (pa_cons (pe_op op_add (pe_op op_pow pe_int pe_int) pe_int) (pa_cons pe_int (pa_cons pe_int pa_nil))))))))) (pe_fc (ok_l_draw T) pass0 (hr.mono (by decide)) (pa_cons (pv 0) (pa_cons pe_int pa_nil))) (fun _ _ => rfl))))
 pss_nil)
 (pss_cons (ps_set (i := 2) sc_l_size.nd rfl (Or.inl rfl) pe_int)
 (pss_cons (ps_for PassesOwn.never rfl (pi_range1 (by rfl) T.n_range (pa_cons pe_int pa_nil)) (pg_name (i := 3) sc_l_size.nd rfl (Or.inl rfl))
 (pss_one (ps_set (i := 2) sc_l_size.nd rfl (Or.inl rfl) (pe_op op_add (pe_op op_mul (pv 2) (pe_op op_pow pe_int pe_int)) (pe_fc (ok_l_draw T) pass0 (hr.mono (by decide)) (pa_cons (pv 0) (pa_cons (pe_op op_pow pe_int pe_int) pa_nil)))))))
 (pss_one (ps_ret (pv 2))))))))), ?_⟩
  obtain ⟨a, rfl, hp, k⟩ := h
  tm_at "go"
  · exact k _ _ (by omega) (by omega) (by tm_at "kc") (by assumption)
  · exact k _ _ (by omega) (by omega) (by tm_at "kc") (by assumption)
  · rename_i p H1 hn hk1 ho r H2 h0 h1 hk2 hp2
    refine Exists.elim (atI_mem (xs := [V.int 999999999999999999999999999999999999999999999999999999999999, V.int 100000000000000000000000000000000000000000000000000000000000, V.int 18446744073709551616, V.int 9223372036854775807, V.int 1000000000000000000000000000000, V.int 1000000000000000009, V.int 255, V.int 100]) h0 (by show r < (8 : Int); omega)) ?_
    rintro v ⟨hv, hm⟩
    have hb : ∃ z : Int, v = .int z ∧ 0 ≤ z ∧ z < 1000000000000000000000000000000000000000000000000000000000000 := by
      simp only [List.mem_cons, List.not_mem_nil, or_false] at hm
      rcases hm with rfl | rfl | rfl | rfl | rfl | rfl | rfl | rfl <;> exact ⟨_, rfl, by omega, by omega⟩
    obtain ⟨z, rfl, z0, z1⟩ := hb
    refine u_ixL (sql (hk2.get1 (by tm_at "ne") ho)) hv ?_
    exact k _ _ z0 z1 (by tm_at "kc") (by assumption)
  · rename_i r H1 h0 h1 hk1 hp1 _ _ _
    refine l_range (fun i σ H' => ∃ (t : Int) (v : Option V), σ = [some (.ref a), some (.int r), some (.int t), v] ∧ 0 ≤ t ∧ t + 1 ≤ (1000000 : Int) ^ i ∧ Kp [a] H H' ∧ Pool H' a) ?_ ?_ ?_
    · exact ⟨0, none, rfl, by omega, by simp, by tm_at "kc", by assumption⟩
    · rintro i σ H2 hi ⟨t, v, rfl, t0, t1, hk2, hp2⟩
      tm_at "run"
      rename_i r2 H3 h02 h12 hk3 hp3
      refine ⟨_, _, rfl, by omega, ?_, by tm_at "kc", by assumption⟩
      rw [Int.pow_succ]
      omega
    · rintro σ H2 ⟨t, v, rfl, t0, t1, hk2, hp2⟩
      tm_at "run"
      refine k _ _ t0 ?_ hk2 hp2
      have e : (1000000 : Int) ^ (Int.toNat 10) = 1000000000000000000000000000000000000000000000000000000000000 := by decide +kernel
      omega
theorem ok_l_fraction (T : Txt K mg CShare COddsError CBadShare CBadText CBadBook CBadMove CBadProgram CBadPlan CUnfit CTooLarge CBadEdit) : Fc P w K mg base CX0 3 "_law_fraction" ["pool"] (spFrac6) := by
  refine fc_of T.d_l_fraction sc_l_fraction (fun vs H Q E h => by obtain ⟨a, rfl, hp, k⟩ := h; rfl) (fun _ _ _ _ _ _ us hl => match us, hl with | [_], _ => rfl) fun f cdv A outer s H vs Q E hr h => ⟨_, (pss_cons (ps_set (i := 1) sc_l_fraction.nd rfl (Or.inl rfl) (pe_fc (ok_l_size T) pass0 (hr.mono (by decide)) (pa_cons (pv 0) pa_nil)))
 (pss_cons (ps_set (i := 2) sc_l_fraction.nd rfl (Or.inl rfl) (pe_callB (c_max2 rfl) (by rfl) T.n_max b_max (pa_cons pe_int (pa_cons (pe_fc (ok_l_size T) pass0 (hr.mono (by decide)) (pa_cons (pv 0) pa_nil)) pa_nil))))
 (pss_cons (ps_if (pt_cmpR op_eq (pe_fc (ok_l_draw T) pass0 (hr.mono (by decide)) (pa_cons (pv 0) (pa_cons pe_int pa_nil))) pe_int (nomark _))
 (pss_cons (ps_set (i := 3) sc_l_fraction.nd rfl (Or.inl rfl) (pe_callB (c_max2 rfl) (by rfl) T.n_max b_max (pa_cons pe_int (pa_cons (pe_op op_mod (pe_callTy c_int1 (by rfl) T.n_int b_int (pa_cons (pe_fc (ok_l_size T) pass0 (hr.mono (by decide)) (pa_cons (pv 0) pa_nil)) pa_nil)) (pe_op op_pow pe_int pe_int)) pa_nil))))
 (pss_cons (ps_set (i := 1) sc_l_fraction.nd rfl (Or.inl rfl) (pe_op op_mulX (pe_op op_mod (pe_callTy c_int1 (by rfl) T.n_int b_int (pa_cons (pv 1) pa_nil)) (pe_op op_pow pe_int pe_int)) (pv 3)))
 (pss_one (ps_set (i := 2) sc_l_fraction.nd rfl (Or.inl rfl) (pe_op op_mulX (pe_callB (c_max2 rfl) (by rfl) T.n_max b_max (pa_cons pe_int (pa_cons (pe_op op_mod (pe_callTy c_int1 (by rfl) T.n_int b_int (pa_cons (pv 2) pa_nil)) (pe_op op_pow pe_int pe_int)) pa_nil))) (pv 3))))))
 pss_nil)
 (pss_cons (ps_if (pt_cmpR op_eq (pe_fc (ok_l_draw T) pass0 (hr.mono (by decide)) (pa_cons (pv 0) (pa_cons pe_int pa_nil))) pe_int (nomark _))
 (pss_one (ps_set (i := 1) sc_l_fraction.nd rfl (Or.inl rfl) (pe_un un_neg (pv 1))))
 pss_nil)
 (pss_one (ps_ret (pe_tup (pa_cons (pv 1) (pa_cons (pv 2) pa_nil))))))))), ?_⟩
  obtain ⟨a, rfl, hp, k⟩ := h
  have big : ∀ x c : Int, 0 ≤ x → x < 1000000000000000000000000000000 → 1 ≤ c → c < 1000000000000000000000000000000 → 0 ≤ x * c ∧ x * c < 1000000000000000000000000000000000000000000000000000000000000 := by
    intro x c h0 h1 h2 h3
    refine ⟨Int.mul_nonneg h0 (by omega), ?_⟩
    have q : x * c ≤ 999999999999999999999999999999 * 999999999999999999999999999999 := Int.mul_le_mul (by omega) (by omega) (by omega) (by omega)
    have e : (999999999999999999999999999999 : Int) * 999999999999999999999999999999 = 999999999999999999999999999998000000000000000000000000000001 := by decide +kernel
    omega
  tm_at "go"
  · rename_i u H1 u0 u1 k1 p1 d0 H2 d00 d01 k2 p2 d _ hd1 hd2 w H3 w0 w1 k3 p3 hw r H4 r0 r1 k4 p4 c hc hc1 hc2 e he he1 he2 s H5 s0 s1 k5 p5 hs p H6 hn k6 ho
    have q1 := big (u % 1000000000000000000000000000000) c (by omega) (by omega) (by omega) (by omega)
    have q2 := big e c (by omega) (by omega) (by omega) (by omega)
    exact k _ _ _ _ (by tm_at "kc") (by tm_at "lp") ⟨ho, Int.mul_pos (by omega) (by omega), by omega, by omega, by omega⟩
  · rename_i u H1 u0 u1 k1 p1 d0 H2 d00 d01 k2 p2 d _ hd1 hd2 w H3 w0 w1 k3 p3 hw r H4 r0 r1 k4 p4 c hc hc1 hc2 e he he1 he2 s H5 s0 s1 k5 p5 hs p H6 hn k6 ho
    have q1 := big (u % 1000000000000000000000000000000) c (by omega) (by omega) (by omega) (by omega)
    have q2 := big e c (by omega) (by omega) (by omega) (by omega)
    exact k _ _ _ _ (by tm_at "kc") (by tm_at "lp") ⟨ho, Int.mul_pos (by omega) (by omega), by omega, by omega, by omega⟩
  all_goals
    rename_i ho
    exact k _ _ _ _ (by tm_at "kc") (by tm_at "lp") ⟨ho, by omega, by omega, by omega, by omega⟩
theorem ok_l_sign (T : Txt K mg CShare COddsError CBadShare CBadText CBadBook CBadMove CBadProgram CBadPlan CUnfit CTooLarge CBadEdit) : Fc P w K mg base CX0 2 "_law_sign" ["pool"] (spTxt 1) := by
  refine fc_of T.d_l_sign sc_l_sign (fun vs H Q E h => by obtain ⟨a, rfl, hp, k⟩ := h; rfl) (fun _ _ _ _ _ _ us hl => match us, hl with | [_], _ => rfl) fun f cdv A outer s H vs Q E hr h => ⟨_, (pss_cons (ps_if (pt_cmpR op_gt (pe_fc (ok_l_draw T) pass0 (hr.mono (by decide)) (pa_cons (pv 0) (pa_cons pe_int pa_nil))) pe_int (nomark _))
 (pss_one (ps_ret (pe_ix ix_str pe_str (pe_fc (ok_l_draw T) pass0 (hr.mono (by decide)) (pa_cons (pv 0) (pa_cons pe_int pa_nil))) (fun _ _ => rfl))))
 pss_nil)
 (pss_cons (ps_set (i := 1) sc_l_sign.nd rfl (Or.inl rfl) pe_str)
 (pss_cons (ps_set (i := 1) sc_l_sign.nd rfl (Or.inl rfl) (pe_op o_addS (pv 1) pe_str))
 (pss_one (ps_ret (pe_ix ix_str (pv 1) (pe_fc (ok_l_draw T) pass0 (hr.mono (by decide)) (pa_cons (pv 0) (pa_cons pe_int pa_nil))) (fun _ _ => rfl))))))), ?_⟩
  obtain ⟨a, rfl, hp, k⟩ := h
  have c_0 : (Str.ofString " !\"#$&'()*+,-./0123456789:;<=>?@ABCDEFGHIJKLMNOPQRSTUVWXYZ[\\]^_`").length = 64 := by decide +kernel
  have c_1 : (Str.ofString "abcdefghijklmnopqrstuvwxyz{|}~\n\t").length = 32 := by decide +kernel
  have c_2 : (Str.ofString "0123456789/-+ _.").length = 16 := by decide +kernel
  tm_at "go"
  all_goals exact k _ _ (by omega) (by tm_at "kc") (by tm_at "lp")
theorem ok_l_changed (T : Txt K mg CShare COddsError CBadShare CBadText CBadBook CBadMove CBadProgram CBadPlan CUnfit CTooLarge CBadEdit) : Fc P w K mg base CX0 3 "_law_changed" ["pool", "text"] (spChg) := by
  refine fc_of T.d_l_changed sc_l_changed (fun vs H Q E h => by obtain ⟨a, x, rfl, hp, hx, k⟩ := h; rfl) (fun _ _ _ _ _ _ us hl => match us, hl with | [_, _], _ => rfl) fun f cdv A outer s H vs Q E hr h => ⟨_, (pss_cons (ps_set (i := 2) sc_l_changed.nd rfl (Or.inl rfl) (pe_fc (ok_l_draw T) pass0 (hr.mono (by decide)) (pa_cons (pv 0) (pa_cons (pe_op op_add (pe_callB c_lenS (by rfl) T.n_len b_len (pa_cons (pv 1) pa_nil)) pe_int) pa_nil))))
 (pss_cons (ps_set (i := 3) sc_l_changed.nd rfl (Or.inl rfl) (pe_fc (ok_l_draw T) pass0 (hr.mono (by decide)) (pa_cons (pv 0) (pa_cons pe_int pa_nil))))
 (pss_cons (ps_set (i := 4) sc_l_changed.nd rfl (Or.inl rfl) (pe_fc (ok_l_sign T) pass0 (hr.mono (by decide)) (pa_cons (pv 0) pa_nil)))
 (pss_cons (ps_if (pt_cmpR op_eq (pv 3) pe_int (nomark _))
 (pss_one (ps_ret (pe_op o_addS (pe_op o_addS (pe_slice C8.sl_txt (pv 1) po_none (po_some (pv 2))) (pv 4)) (pe_slice C8.sl_txt (pv 1) (po_some (pv 2)) po_none))))
 pss_nil)
 (pss_cons (ps_if (pt_cmpR op_eq (pv 3) pe_int (nomark _))
 (pss_one (ps_ret (pe_op o_addS (pe_op o_addS (pe_slice C8.sl_txt (pv 1) po_none (po_some (pv 2))) (pv 4)) (pe_slice C8.sl_txt (pv 1) (po_some (pe_op op_add (pv 2) pe_int)) po_none))))
 pss_nil)
 (pss_one (ps_ret (pe_op o_addS (pe_slice C8.sl_txt (pv 1) po_none (po_some (pv 2))) (pe_slice C8.sl_txt (pv 1) (po_some (pe_op op_add (pv 2) pe_int)) po_none))))))))), ?_⟩
  obtain ⟨a, x, rfl, hp, hx, k⟩ := h
  tm_at "go"
  all_goals exact k _ _ (by omega) (by tm_at "kc") (by tm_at "lp")
theorem ok_l_long_text (T : Txt K mg CShare COddsError CBadShare CBadText CBadBook CBadMove CBadProgram CBadPlan CUnfit CTooLarge CBadEdit) : Fc P w K mg base CX0 2 "_law_long_text" ["pool"] (spTxt 5000) := by
  refine fc_of T.d_l_long_text sc_l_long_text (fun vs H Q E h => by obtain ⟨a, rfl, hp, k⟩ := h; rfl) (fun _ _ _ _ _ _ us hl => match us, hl with | [_], _ => rfl) fun f cdv A outer s H vs Q E hr h => ⟨_, (pss_cons (ps_set (i := 1) sc_l_long_text.nd rfl (Or.inl rfl) (pe_ix (ixlK K) (pe_lst (pa_cons pe_int (pa_cons pe_int (pa_cons pe_int (pa_cons pe_int (pa_cons pe_int (pa_cons pe_int pa_nil))))))) (pe_fc (ok_l_draw T) pass0 (hr.mono (by decide)) (pa_cons (pv 0) (pa_cons pe_int pa_nil))) (fun _ _ => rfl)))
 (pss_cons (ps_set (i := 2) sc_l_long_text.nd rfl (Or.inl rfl) (pe_op o_addS (pe_op o_addS (pe_ix ix_str pe_str (pe_fc (ok_l_draw T) pass0 (hr.mono (by decide)) (pa_cons (pv 0) (pa_cons pe_int pa_nil))) (fun _ _ => rfl)) (pe_op o_repS pe_str (pe_op op_sub (pv 1) pe_int))) pe_str))
 (pss_one (ps_ret (pe_ix (ixlK K) (pe_lst (pa_cons (pe_op o_addS (pv 2) pe_str) (pa_cons (pe_op o_addS (pe_op o_addS pe_str (pv 2)) pe_str) (pa_cons (pe_op o_addS pe_str (pv 2)) (pa_cons (pe_op o_addS pe_str (pv 2)) pa_nil))))) (pe_fc (ok_l_draw T) pass0 (hr.mono (by decide)) (pa_cons (pv 0) (pa_cons pe_int pa_nil))) (fun _ _ => rfl)))))), ?_⟩
  obtain ⟨a, rfl, hp, k⟩ := h
  have c_0 : (Str.ofString "1").length = 1 := by decide +kernel
  have c_1 : (Str.ofString "123456789").length = 9 := by decide +kernel
  have c_2 : (Str.ofString "0").length = 1 := by decide +kernel
  have c_3 : (Str.ofString "/1").length = 2 := by decide +kernel
  have c_4 : (Str.ofString "1/").length = 2 := by decide +kernel
  have c_5 : (Str.ofString "-1/").length = 3 := by decide +kernel
  have c_6 : (Str.ofString "-").length = 1 := by decide +kernel
  have z0 : Str.ofString "0" = ⟨#[48]⟩ := by decide +kernel
  tm_at "go"
  rename_i pl H1 hn hk1 ho r H2 r0 r1 hk2 hp2
  have npl : pl ≠ a := (Pool.ne hn hp).symm
  refine Exists.elim (atI_mem (xs := [V.int 60, V.int 61, V.int 62, V.int 60, V.int 61, V.int 4400]) r0 (by show r < (6 : Int); omega)) ?_
  rintro v ⟨hv, hm⟩
  have hb : ∃ z : Int, v = .int z ∧ 60 ≤ z ∧ z ≤ 4400 := by
    simp only [List.mem_cons, List.not_mem_nil, or_false] at hm
    rcases hm with rfl | rfl | rfl | rfl | rfl | rfl <;> exact ⟨_, rfl, by omega, by omega⟩
  obtain ⟨z, rfl, b0, b1⟩ := hb
  refine u_ixL (sql (by tm_at "lk")) hv ?_
  tm_at "run"
  rename_i e1 g1 e2 g2 e3 g3 e4 g4 e5 g5 pl2 H5 hn5 hk5 ho5 r5 H6 r50 r51 hk6 hp6
  have npl2 : pl2 ≠ a := (Pool.ne hn5 (by tm_at "lp")).symm
  refine Exists.elim (atI_mem (xs := [V.str e1, V.str e3, V.str e4, V.str e5]) r50 (by show r5 < (4 : Int); omega)) ?_
  rintro v ⟨hv2, hm2⟩
  have hb2 : ∃ z : Str, v = .str z ∧ z.length ≤ 5000 := by
    simp only [List.mem_cons, List.not_mem_nil, or_false] at hm2
    rcases hm2 with rfl | rfl | rfl | rfl <;> exact ⟨_, rfl, by omega⟩
  obtain ⟨w, rfl, lw⟩ := hb2
  refine u_ixL (sql (by tm_at "lk")) hv2 ?_
  exact k _ _ lw (by tm_at "kc") (by tm_at "lp")
theorem ok_l_second_text (T : Txt K mg CShare COddsError CBadShare CBadText CBadBook CBadMove CBadProgram CBadPlan CUnfit CTooLarge CBadEdit) : Fc P w K mg base CX0 4 "_law_second_text" ["pool", "low"] (spSec) := by
  refine fc_of T.d_l_second_text sc_l_second_text (fun vs H Q E h => by obtain ⟨a, p, t, b, rfl, hp, h, bt, bb, k⟩ := h; rfl) (fun _ _ _ _ _ _ us hl => match us, hl with | [_, _], _ => rfl) fun f cdv A outer s H vs Q E hr h => ⟨_, (pss_cons (ps_set (i := 2) sc_l_second_text.nd rfl (Or.inl rfl) (pe_op o_addS (pe_op o_addS (pe_callTy c_strI (by rfl) T.n_str b_str (pa_cons (pe_ix (ixtK K) (pv 1) pe_int (fun _ _ => rfl)) pa_nil)) pe_str) (pe_callTy c_strI (by rfl) T.n_str b_str (pa_cons (pe_ix (ixtK K) (pv 1) pe_int (fun _ _ => rfl)) pa_nil))))
 (pss_cons (ps_set (i := 3) sc_l_second_text.nd rfl (Or.inl rfl) (pe_fc (ok_l_draw T) pass0 (hr.mono (by decide)) (pa_cons (pv 0) (pa_cons pe_int pa_nil))))
 (pss_cons (ps_if (PW.pt (pw_or (pt_cmpR op_eq (pv 3) pe_int (nomark _)) (pw_or1 (pt_cmpR op_eq (pv 3) pe_int (nomark _)))))
 (pss_one (ps_ret (pe_fc (ok_l_changed T) pass0 (hr.mono (by decide)) (pa_cons (pv 0) (pa_cons (pv 2) pa_nil)))))
 pss_nil)
 (pss_cons (ps_if (pt_cmpR op_eq (pv 3) pe_int (nomark _))
 (pss_one (ps_ret (pe_fc (ok_l_changed T) pass0 (hr.mono (by decide)) (pa_cons (pv 0) (pa_cons (pe_fc (ok_l_changed T) pass0 (hr.mono (by decide)) (pa_cons (pv 0) (pa_cons (pv 2) pa_nil))) pa_nil)))))
 pss_nil)
 (pss_cons (ps_if (pt_cmpR op_eq (pv 3) pe_int (nomark _))
 (pss_cons (ps_set (i := 4) sc_l_second_text.nd rfl (Or.inl rfl) (pe_op op_add pe_int (pe_fc (ok_l_draw T) pass0 (hr.mono (by decide)) (pa_cons (pv 0) (pa_cons pe_int pa_nil)))))
 (pss_one (ps_ret (pe_op o_addS (pe_op o_addS (pe_callTy c_strI (by rfl) T.n_str b_str (pa_cons (pe_op op_mulX (pe_ix (ixtK K) (pv 1) pe_int (fun _ _ => rfl)) (pv 4)) pa_nil)) pe_str) (pe_callTy c_strI (by rfl) T.n_str b_str (pa_cons (pe_op op_mulX (pe_ix (ixtK K) (pv 1) pe_int (fun _ _ => rfl)) (pv 4)) pa_nil))))))
 pss_nil)
 (pss_cons (ps_if (PW.pt (pw_or (pt_cmpR op_eq (pv 3) pe_int (nomark _)) (pw_or1 (pt_cmpR op_eq (pv 3) pe_int (nomark _)))))
 (pss_one (ps_ret (pe_fc (ok_l_odd_text T) pass0 (hr.mono (by decide)) (pa_cons (pv 0) (pa_cons (pe_callTy c_strI (by rfl) T.n_str b_str (pa_cons (pe_ix (ixtK K) (pv 1) pe_int (fun _ _ => rfl)) pa_nil)) (pa_cons (pe_callTy c_strI (by rfl) T.n_str b_str (pa_cons (pe_ix (ixtK K) (pv 1) pe_int (fun _ _ => rfl)) pa_nil)) pa_nil))))))
 pss_nil)
 (pss_cons (ps_if (PW.pt (pw_or (pt_cmpR op_eq (pv 3) pe_int (nomark _)) (pw_or1 (pt_cmpR op_eq (pv 3) pe_int (nomark _)))))
 (pss_one (ps_ret (pe_fc (ok_l_long_text T) pass0 (hr.mono (by decide)) (pa_cons (pv 0) pa_nil))))
 pss_nil)
 (pss_cons (ps_if (pt_cmpR op_eq (pv 3) pe_int (nomark _))
 (pss_cons (ps_set (i := 2) sc_l_second_text.nd rfl (Or.inl rfl) pe_str)
 (pss_one (ps_for PassesOwn.never rfl (pi_range1 (by rfl) T.n_range (pa_cons (pe_fc (ok_l_draw T) pass0 (hr.mono (by decide)) (pa_cons (pv 0) (pa_cons pe_int pa_nil))) pa_nil)) (pg_name (i := 4) sc_l_second_text.nd rfl (Or.inl rfl))
 (pss_one (ps_set (i := 2) sc_l_second_text.nd rfl (Or.inl rfl) (pe_op o_addS (pv 2) (pe_fc (ok_l_sign T) pass0 (hr.mono (by decide)) (pa_cons (pv 0) pa_nil))))))))
 pss_nil)
 (pss_one (ps_ret (pv 2))))))))))), ?_⟩
  obtain ⟨a, p, t, b, rfl, hp, h, bt, bb, k⟩ := h
  have npa : p ≠ a := by
    obtain ⟨_, _, _, _, e⟩ := id hp
    exact ne_of h e (by intro z; cases z)
  have c_0 : (Str.ofString "").length = 0 := by decide +kernel
  have c_1 : (Str.ofString "/").length = 1 := by decide +kernel
  tm_at "go"
  all_goals first
    | exact k _ _ (by omega) (by tm_at "kc") (by tm_at "lp")
    | skip
  · rename_i r H2 r0 r1 hk2 hp2
    have br : Bt 30 (1 + r) := bt30 (by omega)
    have c1 : CMulX t (1 + r) := bt.cmul br
    have c2 : CMulX b (1 + r) := bb.cmul br
    have w1 : Bt 230 (t * (1 + r)) := bt.mul br
    have w2 : Bt 230 (b * (1 + r)) := bb.mul br
    tm_at "run"
    exact k _ _ (by omega) (by tm_at "kc") (by tm_at "lp")
  · rename_i r H2 r0 r1 hk2 hp2
    refine l_range (fun i σ H' => ∃ (z : Str) (w v : Option V), σ = [some (.ref a), some (.ref p), some (.str z), w, v] ∧ z.length ≤ i ∧ Kp [a] H H' ∧ Pool H' a) ?_ ?_ ?_
    · exact ⟨_, _, _, rfl, by omega, by tm_at "kc", hp2⟩
    · rintro i σ H3 hi ⟨z, w, v, rfl, hz, k3, p3⟩
      tm_at "run"
      exact ⟨_, _, _, rfl, by omega, by tm_at "kc", by tm_at "lp"⟩
    · rintro σ H3 ⟨z, w, v, rfl, hz, k3, p3⟩
      tm_at "run"
      exact k _ _ (by omega) (by tm_at "kc") (by tm_at "lp")

end
end My
set_option Elab.async false
set_option linter.all false
set_option autoImplicit false
set_option maxRecDepth 100000
set_option maxHeartbeats 4000000
namespace My
open PySem PySem.Spec PyProof.Rows L2 U
/-! my own steps: rows of tactics, tried from above -/
local macro_rules | `(tactic| tm_at "lk") => `(tactic| first | with_reducible assumption | (with_reducible refine' Kp.get0 ?k1 ?k2; (case k1 => with_reducible assumption); (case k2 => tm_at "lk")) | (with_reducible refine' Kp.get1 ?k1 ?k3 ?k2; (case k1 => with_reducible assumption); (case k3 => tm_at "ne"); (case k2 => tm_at "lk")) | fail)
local macro_rules | `(tactic| tm_at "lp") => `(tactic| first | with_reducible assumption | (with_reducible refine' Pool.kp0 ?k1 ?k2; (case k1 => with_reducible assumption); (case k2 => tm_at "lp")) | (with_reducible refine' Pool.kp1 ?k1 ?k3 ?k2; (case k1 => with_reducible assumption); (case k3 => tm_at "ne"); (case k2 => tm_at "lp")) | fail)
local macro_rules | `(tactic| tm_at "ls") => `(tactic| first | with_reducible assumption | (with_reducible refine' Scr.kp0 ?k1 ?k2; (case k1 => with_reducible assumption); (case k2 => tm_at "ls")) | (with_reducible refine' Scr.kp1 ?k1 ?k3 ?k4 ?k2; (case k1 => with_reducible assumption); (case k3 => with_reducible assumption); (case k4 => tm_at "ls"); (case k2 => tm_at "ls")) | fail)
local macro_rules | `(tactic| tm_at "ne") => `(tactic| first | with_reducible assumption | (with_reducible refine' Ne.symm ?k1; with_reducible assumption) | (with_reducible refine' ne_new ?k1 ?k2; (case k1 => with_reducible assumption); (case k2 => tm_at "lk")) | (with_reducible refine' ne_new' ?k1 ?k2; (case k1 => with_reducible assumption); (case k2 => tm_at "lk")) | (with_reducible refine' Pool.ne ?k1 ?k2; (case k1 => with_reducible assumption); (case k2 => tm_at "lp")) | (with_reducible refine' Ne.symm (Pool.ne ?k1 ?k2); (case k1 => with_reducible assumption); (case k2 => tm_at "lp")) | fail)
local macro_rules | `(tactic| tm_at "kc") => `(tactic| first | with_reducible assumption | with_reducible exact Kp.refl | (with_reducible refine' Kp.trans ?k1 (Kp.of0 ?k2); (case k2 => with_reducible assumption); (case k1 => tm_at "kc")) | (with_reducible refine' Kp.trans ?k1 ?k2; (case k2 => with_reducible assumption); (case k1 => tm_at "kc")) | (with_reducible refine' Kp.low' ?k1 ?k2 ?k3 ?k4; (case k2 => with_reducible assumption); (case k3 => with_reducible assumption); (case k1 => tm_at "kc"); (case k4 => tm_at "kc")) | fail)
local macro_rules | `(tactic| tm_at "sq") => `(tactic| first | (with_reducible refine' sql ?k9; (case k9 => tm_at "lk")) | (with_reducible refine' Scr.sq ?k9; (case k9 => tm_at "ls")) | fail)
local macro_rules | `(tactic| tm_at "sqt") => `(tactic| first | (with_reducible refine' sqt ?k9; (case k9 => tm_at "lk")) | fail)
local macro_rules | `(tactic| tm_at "bt") => `(tactic| first | with_reducible assumption | (with_reducible refine' Bt.mul ?k1 ?k2; (case k1 => tm_at "bt"); (case k2 => tm_at "bt")) | (with_reducible refine' Bt.addM ?k1 ?k2; (case k1 => tm_at "bt"); (case k2 => tm_at "bt")) | (with_reducible refine' Bt.subM ?k1 ?k2; (case k1 => tm_at "bt"); (case k2 => tm_at "bt")) | (with_reducible refine' Bt.neg ?k1; (case k1 => tm_at "bt")) | fail)
local macro_rules | `(tactic| tm_at "bm") => `(tactic| first | with_reducible assumption | (with_reducible refine' Bt.mono ?k1 ?k2; (case k1 => with_reducible assumption); (case k2 => k_dflt decide)) | fail)
local macro_rules | `(tactic| tm_at "side") => `(tactic| first | with_reducible assumption | (with_reducible refine' Bt.cmul ?k1 ?k2 ?k3; (case k1 => tm_at "bt"); (case k2 => tm_at "bt"); (case k3 => k_dflt decide)) | (with_reducible refine cmul_of ?k1; (case k1 => omega)) | (with_reducible refine cpow_of ?k1; (case k1 => omega)) | (with_reducible refine cdivw_of ?k1; (case k1 => omega)) | (with_reducible refine cdivw_big ?k1; (case k1 => omega)) | (with_reducible refine cmulx_of ?k1; (case k1 => omega)) | omega | fail)
local macro_rules | `(tactic| tm_at "step") => `(tactic| first
  | with_reducible refine u_op ?_
  | (with_reducible refine' u_var ?k1 ?_; (case k1 => k_dflt rfl))
  | with_reducible refine u_c ?_
  | with_reducible refine u_I0 ?_
  | with_reducible refine u_seq ?_
  | with_reducible refine u_asg ?_
  | with_reducible refine g_name ?_
  | with_reducible refine u_cb ?_
  | with_reducible refine u_cons ?_
  | with_reducible refine u_nil ?_
  | (with_reducible refine' u_pow ?k1 ?k2 ?_; (case k1 => k_dflt (tm_at "side")); (case k2 => (conv => lhs; simp only [Int.reduceToNat, Int.reducePow]) <;> rfl))
  | (with_reducible refine' u_I ?k1 ?_; (case k1 => k_dflt (tm_at "side")))
  | with_reducible refine u_int1 ?_
  | with_reducible refine u_intB ?_
  | with_reducible refine u_if ?_
  | with_reducible refine u_test ?_
  | with_reducible refine u_tb ?_
  | with_reducible refine u_tB ?_
  | with_reducible refine u_eqI ?_
  | with_reducible refine u_neI ?_
  | with_reducible refine u_eqB ?_
  | with_reducible refine u_and ?_
  | with_reducible refine u_or ?_
  | with_reducible refine u_not ?_
  | with_reducible refine u_andV ?_
  | with_reducible refine u_orV ?_
  | with_reducible refine u_notV ?_
  | with_reducible refine br_t ?_
  | with_reducible refine br_f ?_
  | with_reducible refine br_nt ?_
  | with_reducible refine br_nf ?_
  | with_reducible refine br_n ?_
  | with_reducible refine u_ret ?_
  | with_reducible refine u_next ?_
  | with_reducible refine u_drop ?_
  | with_reducible refine u_un ?_
  | with_reducible refine u_U ?_
  | with_reducible refine u_call ?_
  | with_reducible refine u_fldN ?_
  | with_reducible refine g_sub ?_
  | with_reducible refine g_cons ?_
  | with_reducible refine g_nil ?_
  | with_reducible refine u_tpar ?_
  | (with_reducible refine u_absL ?_; intro m_ h1_ h2_)
  | (with_reducible refine u_maxL ?_; intro m_ h1_ h2_ h3_)
  | (with_reducible refine u_minL ?_; intro m_ h1_ h2_ h3_)
  | with_reducible refine u_gcd ?_
  | with_reducible refine u_isi_ii ?_
  | with_reducible refine u_isi_ib ?_
  | with_reducible refine u_isi_bb ?_
  | with_reducible refine u_tupN ?_
  | with_reducible refine u_lstN ?_
  | (with_reducible refine' u_ixL ?k1 ?k2 ?_; (case k1 => tm_at "sq"); (case k2 => first | with_reducible assumption | k_dflt rfl))
  | (with_reducible refine' u_ixT ?k1 ?k2 ?_; (case k1 => tm_at "sqt"); (case k2 => k_dflt rfl))
  | (with_reducible refine' g_tup ?k1 ?k2 ?_; (case k1 => tm_at "sqt"); (case k2 => k_dflt rfl))
  | (with_reducible refine' u_lenL ?k1 ?_; (case k1 => tm_at "sq"))
  | (with_reducible refine' u_lenT ?k1 ?_; (case k1 => tm_at "sqt"))
  | with_reducible refine u_for ?_
  | with_reducible refine u_iL ?_
  | with_reducible refine u_iT ?_
  | with_reducible refine u_r1 ?_
  | with_reducible refine u_r2 ?_
  | (with_reducible refine' u_iLq ?k1 ?_; (case k1 => tm_at "sq"))
  | (with_reducible refine' u_iTq ?k1 ?_; (case k1 => tm_at "sqt"))
  | (with_reducible refine' u_r1q ?k1 ?_; (case k1 => (constructor <;> omega)))
  | (with_reducible refine' u_r2q ?k1 ?_; (case k1 => (refine ⟨?_, ?_, ?_, ?_⟩ <;> omega)))
  | with_reducible refine u_lc ?_
  | with_reducible refine u_yes ?_
  | (with_reducible refine endQ ?k1 ?_; (case k1 => k_dflt rfl))
  | with_reducible refine u_meth ?_
  | with_reducible refine u_callS ?_
  | with_reducible refine u_bm ?_
  | (with_reducible refine' bm_list ?k1 ?_; (case k1 => tm_at "lk"))
  | (with_reducible refine' u_append ?k1 ?k2 ?_; (case k1 => tm_at "lk"); (case k2 => omega); intro H_ hk_ ho_)
  | (with_reducible refine' appE ?k1 ?k2 ?_; (case k1 => tm_at "lk"); (case k2 => omega); intro H_ hk_ ho_)
  | with_reducible refine u_sl ?_
  | with_reducible refine u_noPart ?_
  | with_reducible refine u_part ?_
  | with_reducible refine u_intq ?_
  | (with_reducible refine' u_slL ?k1 ?_; (case k1 => tm_at "sq"); intro p_ H_ hn_ hk_ ho_)
  | (with_reducible refine' n_tup ?k1 ?_; (case k1 => k_dflt (exact Nat.le_of_ble_eq_true rfl)); intro p_ H_ hn_ hk_ ho_)
  | (with_reducible refine' n_lst ?k1 ?_; (case k1 => k_dflt (exact Nat.le_of_ble_eq_true rfl)); intro p_ H_ hn_ hk_ ho_)
  | (with_reducible refine' s_list ?k1 ?k2 ?_; (case k1 => tm_at "lk"); (case k2 => k_dflt rfl); intro H_ hk_ ho_)
  | (with_reducible refine br_d ?_ ?_ <;> intro hc_) | fail)
local macro_rules | `(tactic| tm_at "run") => `(tactic| repeat' tm_at "step")
local macro_rules | `(tactic| tm_at "go") => `(tactic| ((try dsimp only [cxOf, Cx.nox, Cx.wish]); tm_at "run"))

local macro_rules | `(tactic| tm_at "sh") => `(tactic| first | with_reducible assumption | (with_reducible refine' ShAt.kp0 ?k1 ?k2; (case k1 => with_reducible assumption); (case k2 => tm_at "sh")) | (with_reducible refine' ShAt.kp1 ?k1 ?k3 ?k2; (case k1 => with_reducible assumption); (case k3 => tm_at "ne"); (case k2 => tm_at "sh")) | fail)
local macro_rules | `(tactic| tm_at "step") => `(tactic| first | (with_reducible refine' fld_top (by assumption) ?k1 ?_; (case k1 => tm_at "sh")) | fail)
local macro_rules | `(tactic| tm_at "step") => `(tactic| first | (with_reducible refine' fld_bottom (by assumption) ?k1 ?_; (case k1 => tm_at "sh")) | fail)
local macro_rules | `(tactic| tm_at "step") => `(tactic| first | (with_reducible refine' isi_share (by assumption) ?k1 ?_; (case k1 => tm_at "sh")) | fail)
local macro_rules | `(tactic| tm_at "step") => `(tactic| first | with_reducible refine u_newI ?_ | fail)
local macro_rules | `(tactic| tm_at "step") => `(tactic| first | with_reducible refine u_newK ?_ | fail)
local macro_rules | `(tactic| tm_at "step") => `(tactic| first | with_reducible refine newK rfl rfl ?_ | fail)
local macro_rules | `(tactic| tm_at "step") => `(tactic| first | with_reducible refine u_sfld ?_ | fail)
local macro_rules | `(tactic| tm_at "b1") => `(tactic| first | with_reducible assumption | omega)
local macro_rules | `(tactic| tm_at "step") => `(tactic| first | (with_reducible refine' k_opA ?k1 ?k2 ?k3 ?k4 ?k5 ?k6 ?k7 ?k8 ?k9 ?k10 ?_; (case k1 => tm_at "sh"); (case k2 => tm_at "sh"); (case k3 => tm_at "b1"); (case k4 => tm_at "b1"); (case k5 => with_reducible assumption); (case k6 => with_reducible assumption); (case k7 => with_reducible assumption); (case k8 => with_reducible assumption); (case k9 => k_dflt decide); (case k10 => k_dflt decide); intro r_ H_ x_ y_ hn_ hk_ hs_ hf_ hy_ hbx_ hby_) | fail)
local macro_rules | `(tactic| tm_at "step") => `(tactic| first | (with_reducible refine' k_opS ?k1 ?k2 ?k3 ?k4 ?k5 ?k6 ?k7 ?k8 ?k9 ?k10 ?_; (case k1 => tm_at "sh"); (case k2 => tm_at "sh"); (case k3 => tm_at "b1"); (case k4 => tm_at "b1"); (case k5 => with_reducible assumption); (case k6 => with_reducible assumption); (case k7 => with_reducible assumption); (case k8 => with_reducible assumption); (case k9 => k_dflt decide); (case k10 => k_dflt decide); intro r_ H_ x_ y_ hn_ hk_ hs_ hf_ hy_ hbx_ hby_) | fail)
local macro_rules | `(tactic| tm_at "step") => `(tactic| first | (with_reducible refine' k_opM ?k1 ?k2 ?k3 ?k4 ?k5 ?k6 ?k7 ?k8 ?k9 ?k10 ?_; (case k1 => tm_at "sh"); (case k2 => tm_at "sh"); (case k3 => tm_at "b1"); (case k4 => tm_at "b1"); (case k5 => with_reducible assumption); (case k6 => with_reducible assumption); (case k7 => with_reducible assumption); (case k8 => with_reducible assumption); (case k9 => k_dflt decide); (case k10 => k_dflt decide); intro r_ H_ x_ y_ hn_ hk_ hs_ hf_ hy_ hbx_ hby_) | fail)
local macro_rules | `(tactic| tm_at "step") => `(tactic| first | (with_reducible refine' k_draw ?k1 ?k2 ?_; (case k1 => tm_at "lp"); (case k2 => k_dflt omega); intro r_ H_ h0_ h1_ hk_ hp_) | fail)
local macro_rules | `(tactic| tm_at "step") => `(tactic| first | with_reducible refine k_int ?_ | fail)
local macro_rules | `(tactic| tm_at "step") => `(tactic| first | (with_reducible refine' k_pool ?k1 ?k2 ?_; (case k1 => tm_at "ls"); (case k2 => k_dflt (tm_at "side")); intro p_ H_ hn_ hk_ hp_) | fail)
local macro_rules | `(tactic| tm_at "ln") => `(tactic| first | with_reducible assumption | omega | (simp only [SX.S_len, Str.length_append]; omega) | fail)
local macro_rules | `(tactic| tm_at "lg") => `(tactic| first | with_reducible assumption | (with_reducible refine' bt_log ?k1; (case k1 => tm_at "bm")) | fail)
local macro_rules | `(tactic| tm_at "step") => `(tactic| first
  | with_reducible refine u_eqS ?_
  | with_reducible refine u_neS ?_
  | with_reducible refine bm_str ?_
  | with_reducible refine u_bm0 ?_
  | with_reducible refine u_find ?_
  | with_reducible refine u_asc ?_
  | with_reducible refine u_dgt ?_
  | with_reducible refine u_inS ?_
  | with_reducible refine u_niS ?_
  | with_reducible refine u_isNn ?_
  | with_reducible refine u_isNr ?_
  | (with_reducible refine' u_partS ?k1 ?k2 ?_; (case k1 => k_dflt rfl); (case k2 => tm_at "ln"); intro p_ H_ hn_ hk_ ho_)
  | (with_reducible refine' u_rmp ?k1 ?_; (case k1 => tm_at "ln"))
  | (with_reducible refine' u_addS ?k1 ?_; (case k1 => tm_at "ln"))
  | (with_reducible refine' u_lenS ?k1 ?_; (case k1 => tm_at "ln"))
  | (with_reducible refine' u_strI ?k1 ?_; (case k1 => tm_at "lg"))
  | (with_reducible refine' u_slX ?k1 ?_; (case k1 => tm_at "ln"))
  | with_reducible refine u_iS ?_
  | with_reducible refine u_iSq ?_
  | with_reducible refine u_join ?_
  | with_reducible refine js_cons ?_
  | with_reducible refine js_nil ?_
  | (with_reducible refine' jsQ ?k1 ?_; (case k1 => tm_at "ln"))
  | with_reducible refine u_fmt ?_
  | (with_reducible refine' fmtI ?k1 ?_; (case k1 => tm_at "lg"))
  | with_reducible refine u_smQ ?_
  | with_reducible refine smQ ?_
  | with_reducible refine u_smI ?_
  | (with_reducible refine' u_catL ?k1 ?k2 ?k3 ?_; (case k1 => tm_at "lk"); (case k2 => tm_at "lk"); (case k3 => k_dflt (exact Nat.le_of_ble_eq_true rfl)); intro p_ H_ hn_ hk_ ho_)
  | fail)
local macro_rules | `(tactic| tm_at "step") => `(tactic| first
  | (with_reducible refine' u_partN ?k0 ?k1 ?k2 ?_; (case k0 => with_reducible assumption); (case k1 => k_dflt rfl); (case k2 => tm_at "ln"); intro p_ H_ hn_ hk_ ho_)
  | (with_reducible refine' u_rmpN ?k0 ?k1 ?_; (case k0 => with_reducible assumption); (case k1 => tm_at "ln"))
  | (with_reducible refine' u_findN ?k0 ?_; (case k0 => with_reducible assumption))
  | (with_reducible refine' u_slN ?k0 ?k1 ?_; (case k0 => with_reducible assumption); (case k1 => tm_at "ln"))
  | (with_reducible refine' u_intS ?k0 ?k1 ?_; (case k0 => with_reducible assumption); (case k1 => tm_at "ln"))
  | fail)
local macro_rules | `(tactic| tm_at "step") => `(tactic| first | (with_reducible refine' k_size ?k1 ?_; (case k1 => tm_at "lp"); intro r_ H_ h0_ h1_ hk_ hp_) | fail)
local macro_rules | `(tactic| tm_at "step") => `(tactic| first | (with_reducible refine' k_frac6 ?k1 ?_; (case k1 => tm_at "lp"); intro p_ u_ d_ H_ hk_ hp_ hf_) | fail)
local macro_rules | `(tactic| tm_at "step") => `(tactic| first | (with_reducible refine' k_low ?k0 ?k1 ?k2 ?_; (case k0 => k_dflt rfl); (case k1 => tm_at "b1"); (case k2 => tm_at "bm"); intro p_ H_ t_ b_ hn_ hk_ ho_ hf_) | fail)
local macro_rules | `(tactic| tm_at "step") => `(tactic| first | (with_reducible refine' k_txt ?k1 ?_; (case k1 => tm_at "lp"); intro z_ H_ hz_ hk_ hp_) | fail)
local macro_rules | `(tactic| tm_at "step") => `(tactic| first | (with_reducible refine' k_chg ?k1 ?k2 ?_; (case k1 => tm_at "lp"); (case k2 => omega); intro z_ H_ hz_ hk_ hp_) | fail)
local macro_rules | `(tactic| tm_at "step") => `(tactic| first | (with_reducible refine' k_odd ?k1 ?k2 ?k3 ?_; (case k1 => tm_at "lp"); (case k2 => omega); (case k3 => omega); intro z_ H_ hz_ hk_ hp_) | fail)
local macro_rules | `(tactic| tm_at "step") => `(tactic| first | (with_reducible refine' k_sec ?k1 ?k2 ?k3 ?k4 ?_; (case k1 => tm_at "lp"); (case k2 => tm_at "lk"); (case k3 => with_reducible assumption); (case k4 => with_reducible assumption); intro z_ H_ hz_ hk_ hp_) | fail)
local macro_rules | `(tactic| tm_at "step") => `(tactic| first | (with_reducible refine' k_strOwn ?k1 ?k2 ?k3 ?_; (case k1 => tm_at "sh"); (case k2 => tm_at "bm"); (case k3 => tm_at "bm")) | fail)
local macro_rules | `(tactic| tm_at "step") => `(tactic| first | (with_reducible refine' k_uns ?k0 ?k1 ?_; (case k0 => k_dflt rfl); (case k1 => tm_at "ln")) | fail)
local macro_rules | `(tactic| tm_at "step") => `(tactic| first | (with_reducible refine' k_share ?k1 ?k2 ?_; (case k1 => tm_at "b1"); (case k2 => tm_at "bm"); intro p_ H_ t_ b_ hn_ hk_ hs_ hf_) | fail)
local macro_rules | `(tactic| tm_at "step") => `(tactic| first | (with_reducible refine' k_share1 ?_; intro p_ H_ t_ b_ hn_ hk_ hs_ hf_) | fail)
/-! ## promises: reading, refusing, holding -/
def spFields (C : Addr) : Sp := fun vs H Q _ => ∃ (p q : Addr) (t b t' b' : Int), vs = [.ref p, .ref q] ∧ ShAt C H p t b ∧ H q = some (.tup [.int t', .int b']) ∧ (t = t' ∧ b = b') ∧ Q (.bl true) H
def spDig : Sp := fun vs H Q _ => ∃ (l : List Nat), vs = [.str (SX.S l)] ∧ l.length ≤ 90000 ∧ ∀ b : Bool, (b = true ↔ Tx.Canon l ∧ l.length ≤ 60) → Q (.bl b) H
def spRead : Sp := fun vs H Q _ => ∃ (a : List Nat), vs = [.str (SX.S a)] ∧ a.length ≤ 90000 ∧ (∀ t b, Tx.Good a t b → ∀ p H', Kp [] H H' → H' p = some (.tup [.int t, .int b]) → Q (.ref p) H') ∧ ((¬ ∃ t b, Tx.Good a t b) → ∀ H', Kp [] H H' → Q .non H')
def spRefu : Sp := fun vs H Q _ => ∃ (a : List Nat), vs = [.str (SX.S a)] ∧ a.length ≤ 90000 ∧ (¬ ∃ t b, Tx.Good a t b) ∧ ∀ H', Kp [] H H' → Q (.bl true) H'
def spHold : Sp := fun vs H Q _ => ∃ (a : List Nat), vs = [.str (SX.S a)] ∧ a.length ≤ 90000 ∧ ∀ H', Kp [] H H' → Q (.bl true) H'
def spLaw (K : PySem.W.Frag) : Sp := fun vs H Q _ => ∃ (a : Addr) (ns : List Int), vs = [.ref a] ∧ Scr K H a ns ∧ ∀ H', Q (.bl true) H'
section
variable {H : Hp} {Q : VK} {E : XK} {C CB : Addr} {K : PySem.W.Frag}
theorem k_fields {p q : Addr} {t b t' b' : Int} {vs : List V} (hv : vs = [.ref p, .ref q]) (s : ShAt C H p t b) (l : H q = some (.tup [.int t', .int b'])) (e : t = t' ∧ b = b') (k : Q (.bl true) H) : spFields C vs H Q E := ⟨p, q, t, b, t', b', hv, s, l, e, k⟩
theorem k_dig {l : List Nat} {vs : List V} (hv : vs = [.str (SX.S l)]) (h : l.length ≤ 90000) (k : ∀ b : Bool, (b = true ↔ Tx.Canon l ∧ l.length ≤ 60) → Q (.bl b) H) : spDig vs H Q E := ⟨l, hv, h, k⟩
theorem k_hold {a : List Nat} {vs : List V} (hv : vs = [.str (SX.S a)]) (h : a.length ≤ 90000) (k : ∀ H', Kp [] H H' → Q (.bl true) H') : spHold vs H Q E := ⟨a, hv, h, k⟩
end

/-! reading: the plain law -/
theorem val_num {r : List Nat} (c : Tx.Canon r) {n : Nat} (h : TL.numL n = r) : NumText.digitsVal r = n := by rw [← h, TL.numL_val]
theorem rd_minus {r q : List Nat} {t b : Int} (h47 : 47 ∉ (45 :: r)) (g : Tx.Good ((45 :: r) ++ 47 :: q) t b) : t < 0 ∧ r = TL.numL t.natAbs ∧ t = -((NumText.digitsVal r : Nat) : Int) ∧ ((NumText.digitsVal q : Nat) : Int) = b := by
  obtain ⟨e1, e2, _, _, _, q6⟩ := good_parts h47 g
  unfold Tx.iL at e1
  split at e1
  · have e := (List.cons.inj e1).2
    refine ⟨by assumption, e, ?_, q6⟩
    rw [e, TL.numL_val]; omega
  · exact absurd (e1 ▸ List.mem_cons_self : 45 ∈ TL.numL t.natAbs) (Tx.free45 _)
theorem rd_plain {p q : List Nat} {t b : Int} (h47 : 47 ∉ p) (np : p.take 1 ≠ [45]) (g : Tx.Good (p ++ 47 :: q) t b) : 0 ≤ t ∧ p = TL.numL t.natAbs ∧ t = ((NumText.digitsVal p : Nat) : Int) ∧ ((NumText.digitsVal q : Nat) : Int) = b := by
  obtain ⟨e1, e2, _, _, _, q6⟩ := good_parts h47 g
  unfold Tx.iL at e1
  split at e1
  · rw [e1] at np
    exact absurd rfl np
  · refine ⟨by omega, e1, ?_, q6⟩
    rw [e1, TL.numL_val]; omega
theorem mk_minus {r q : List Nat} (c1 : Tx.Canon r) (l1 : r.length ≤ 60) (c2 : Tx.Canon q) (l2 : q.length ≤ 60) (d1 : 1 ≤ ((NumText.digitsVal q : Nat) : Int)) (u1 : ((NumText.digitsVal r : Nat) : Int) ≠ 0)
    (g : Nat.gcd (NumText.digitsVal r) (NumText.digitsVal q) = 1) : Tx.Good ((45 :: r) ++ 47 :: q) (-((NumText.digitsVal r : Nat) : Int)) ((NumText.digitsVal q : Nat) : Int) := by
  have a1 : (-((NumText.digitsVal r : Nat) : Int)).natAbs = NumText.digitsVal r := by omega
  have a2 : (((NumText.digitsVal q : Nat) : Int)).natAbs = NumText.digitsVal q := by omega
  refine ⟨?_, d1, by rw [a1, a2]; exact g, by rw [a1, Tx.num_of c1]; exact l1, by rw [a2, Tx.num_of c2]; exact l2⟩
  unfold Tx.shL Tx.iL
  rw [if_pos (by omega), if_neg (by omega), a1, a2, Tx.num_of c1, Tx.num_of c2]
theorem mk_plain {r q : List Nat} (c1 : Tx.Canon r) (l1 : r.length ≤ 60) (c2 : Tx.Canon q) (l2 : q.length ≤ 60) (d1 : 1 ≤ ((NumText.digitsVal q : Nat) : Int))
    (g : Nat.gcd (NumText.digitsVal r) (NumText.digitsVal q) = 1) : Tx.Good (r ++ 47 :: q) ((NumText.digitsVal r : Nat) : Int) ((NumText.digitsVal q : Nat) : Int) := by
  have a1 : (((NumText.digitsVal r : Nat) : Int)).natAbs = NumText.digitsVal r := by omega
  have a2 : (((NumText.digitsVal q : Nat) : Int)).natAbs = NumText.digitsVal q := by omega
  refine ⟨?_, d1, by rw [a1, a2]; exact g, by rw [a1, Tx.num_of c1]; exact l1, by rw [a2, Tx.num_of c2]; exact l2⟩
  unfold Tx.shL Tx.iL
  rw [if_neg (by omega), if_neg (by omega), a1, a2, Tx.num_of c1, Tx.num_of c2]
theorem val_bt {r : List Nat} (c : Tx.Canon r) (l : r.length ≤ 60) : Bt 200 ((NumText.digitsVal r : Nat) : Int) := by
  have p6 : (10 : Nat) ^ 60 ≤ 2 ^ 200 := by decide +kernel
  have v2 : NumText.digitsVal r < 10 ^ 60 := Nat.lt_of_lt_of_le (Tx.val_lt _ _ rfl c.2.1) (Nat.pow_le_pow_right (by decide) l)
  exact Nat.lt_of_lt_of_le (by omega) p6
theorem ne_pair {K : PySem.W.Frag} {H : Hp} {Q : VK} {p q : Addr} {a b c d : Int} (h1 : H p = some (.tup [.int a, .int b])) (h2 : H q = some (.tup [.int c, .int d])) (k : Q (.bl (!(decide (a = c) && decide (b = d)))) H) : rNeD K (.ref p) (.ref q) H Q := by
  refine ⟨.tuple [.int a, .int b], .tuple [.int c, .int d], .tup (.of h1) (.cons (.int _) (.cons (.int _) .nil)), .tup (.of h2) (.cons (.int _) (.cons (.int _) .nil)), rfl, rfl, ?_⟩
  have e : PyData.eqv (.tuple [.int a, .int b]) (.tuple [.int c, .int d]) = (decide (a = c) && decide (b = d)) := by
    show ((a == c) && ((b == d) && true)) = _
    rw [Bool.and_true]
    rfl
  rw [e]
  exact k
theorem low_one {u d t b : Int} (hf : Fr.Fr t b u d) (d1 : 1 ≤ d) (e : t = u ∧ b = d) : Nat.gcd u.natAbs d.natAbs = 1 := by
  obtain ⟨rfl, rfl⟩ := e
  exact hf.2.1
theorem low_of {u d t b : Int} (hf : Fr.Fr t b u d) (d1 : 1 ≤ d) (e : Nat.gcd u.natAbs d.natAbs = 1) : t = u ∧ b = d :=
  (Fr.Fr.eq_iff hf (⟨d1, e, rfl⟩ : Fr.Fr u d u d) d1 d1).mpr rfl
local macro_rules | `(tactic| tm_at "step") => `(tactic| first | (with_reducible refine' k_fields ?k0 ?k1 ?k2 ?k3 ?_; (case k0 => k_dflt rfl); (case k1 => tm_at "sh"); (case k2 => tm_at "lk"); (case k3 => first | with_reducible assumption | exact ⟨rfl, rfl⟩)) | fail)
local macro_rules | `(tactic| tm_at "step") => `(tactic| first | (with_reducible refine' k_hold ?k0 ?k1 ?_; (case k0 => k_dflt rfl); (case k1 => tm_at "ln"); intro H_ hk_) | fail)

section
variable {P : Program} {w : World} {K : PySem.W.Frag} {mg : Str → Option Value} {base : Heap} {CShare COddsError CBadShare CBadText CBadBook CBadMove CBadProgram CBadPlan CUnfit CTooLarge CBadEdit : Addr}
theorem ok_l_low (T : Txt K mg CShare COddsError CBadShare CBadText CBadBook CBadMove CBadProgram CBadPlan CUnfit CTooLarge CBadEdit) : Fc P w K mg base CX0 1 "_law_low" ["up", "down"] (spLow) := by
  refine fc_of T.d_l_low sc_l_low (fun vs H Q E h => by obtain ⟨u, d, rfl, d1, bd, k⟩ := h; rfl) (fun _ _ _ _ _ _ us hl => match us, hl with | [_, _], _ => rfl) fun f cdv A outer s H vs Q E hr h => ⟨_, (pss_cons (ps_set (i := 2) sc_l_low.nd rfl (Or.inl rfl) (pe_callB c_abs (by rfl) T.n_abs b_abs (pa_cons (pv 0) pa_nil)))
 (pss_cons (ps_set (i := 3) sc_l_low.nd rfl (Or.inl rfl) (pv 1))
 (pss_cons (ps_while PassesOwn.never (pt_cmpR op_gt (pv 3) pe_int (nomark _))
 (pss_one (ps_par (i := 2) (j := 3) (by rfl) sc_l_low.nd rfl rfl (by decide) rfl rfl (pa_cons (pv 3) (pa_cons (pe_op op_mod (pe_callTy c_int1 (by rfl) T.n_int b_int (pa_cons (pv 2) pa_nil)) (pv 3)) pa_nil)) (by rfl))))
 (pss_one (ps_ret (pe_tup (pa_cons (pe_op op_fdivW (pv 0) (pv 2)) (pa_cons (pe_op op_fdivW (pv 1) (pv 2)) pa_nil)))))))), ?_⟩
  obtain ⟨u, d, rfl, d1, bd, k⟩ := h
  have gp := Fr.Fr.gpos (u := u) d1
  have gb : Bt 8500 ((Nat.gcd u.natAbs d.natAbs : Nat) : Int) := bd.le (by have := Fr.Fr.gle (u := u) d1; omega)
  have cd : ∀ x, CDivW x ((Nat.gcd u.natAbs d.natAbs : Nat) : Int) := fun x => gb.cdiv gp
  tm_at "go"
  rename_i m m0 m1
  have em : m.natAbs = u.natAbs := by omega
  refine w_by (fun σ H' => ∃ x y : Int, σ = [some (.int u), some (.int d), some (.int x), some (.int y)] ∧ H' = H ∧ 0 ≤ x ∧ 0 ≤ y ∧ Nat.gcd x.natAbs y.natAbs = Nat.gcd u.natAbs d.natAbs) (fun σ _ => match σ with | [_, _, _, some (.int y)] => y.toNat | _ => 0) ⟨m, d, rfl, rfl, m0, by omega, by rw [em]⟩ ?_ ?_
  · rintro σ H' ⟨x, y, rfl, rfl, h0, h1, g⟩
    tm_at "run"
    · rename_i hc
      have m0 := Int.emod_nonneg x (show y ≠ 0 by omega)
      have m1 := Int.emod_lt_of_pos x hc
      refine ⟨⟨_, _, rfl, rfl, h1, m0, ?_⟩, ?_⟩
      · have e : (x % y).natAbs = x.natAbs % y.natAbs := by rw [Int.natAbs_emod_of_nonneg h0]
        rw [e, Nat.gcd_comm, ← Nat.gcd_rec, Nat.gcd_comm]
        exact g
      · show (x % y).toNat < y.toNat
        omega
    · rename_i hc
      have y0 : y = 0 := by omega
      subst y0
      obtain rfl : x = ((Nat.gcd u.natAbs d.natAbs : Nat) : Int) := by
        have q : x.natAbs = Nat.gcd u.natAbs d.natAbs := by simpa using g
        omega
      refine u_I (cd _) ?_
      tm_at "run"
      refine u_I (cd _) ?_
      tm_at "run"
      rename_i hn hk ho
      exact k _ _ _ _ hn hk ho (Fr.Fr.init d1)
  · rintro σ H' Q1 Q2 hq ⟨v, hv, i, j, e1, e2, n, en, q⟩
    exact ⟨v, hv, i, j, e1, e2, n, en, hq _ _ q⟩
theorem ok_l_fields (T : Txt K mg CShare COddsError CBadShare CBadText CBadBook CBadMove CBadProgram CBadPlan CUnfit CTooLarge CBadEdit) : Fc P w K mg base CX0 2 "_law_fields" ["told", "due"] (spFields CShare) := by
  refine fc_of T.d_l_fields sc_l_fields (fun vs H Q E h => by obtain ⟨p, q, t, b, t', b', rfl, s, l, e, k⟩ := h; rfl) (fun _ _ _ _ _ _ us hl => match us, hl with | [_, _], _ => rfl) fun f cdv A outer s H vs Q E hr h => ⟨_, (pss_cons (ps_if (PW.pt (pw_or (pt_not (pt_val (pe_callB (isiK K) (by rfl) T.n_isinstance b_isinstance (pa_cons (pv 0) (pa_cons (pe_glob (v := .ref CShare) rfl T.sh.g rfl) pa_nil))))) (pw_or (pt_not (pt_val (pe_fc (ok_l_int T) pass0 (hr.mono (by decide)) (pa_cons (fldK K (pv 0) rfl) pa_nil)))) (pw_or1 (pt_not (pt_val (pe_fc (ok_l_int T) pass0 (hr.mono (by decide)) (pa_cons (fldK K (pv 0) rfl) pa_nil))))))))
 (pss_one (ps_ret pe_bl))
 pss_nil)
 (pss_one (ps_ret (pe_and (pe_cmpR op_eq (fldK K (pv 0) rfl) (pe_ix (ixtK K) (pv 1) pe_int (fun _ _ => rfl)) (nomark _)) (pe_one (pe_cmpR op_eq (fldK K (pv 0) rfl) (pe_ix (ixtK K) (pv 1) pe_int (fun _ _ => rfl)) (nomark _))))))), ?_⟩
  obtain ⟨p, q, t, b, t', b', rfl, s, l, e, k⟩ := h
  have S := T.sh
  tm_at "go"
  all_goals first | (exfalso; omega) | skip
  rw [decide_eq_true e.2]
  exact k
theorem ok_l_digits (T : Txt K mg CShare COddsError CBadShare CBadText CBadBook CBadMove CBadProgram CBadPlan CUnfit CTooLarge CBadEdit) : Fc P w K mg base CX0 1 "_law_digits" ["word"] (spDig) := by
  refine fc_of T.d_l_digits sc_l_digits (fun vs H Q E h => by obtain ⟨l, rfl, hl, k⟩ := h; rfl) (fun _ _ _ _ _ _ us hl => match us, hl with | [_], _ => rfl) fun f cdv A outer s H vs Q E hr h => ⟨_, (pss_cons (ps_if (PW.pt (pw_or (pt_cmpR op_lt (pe_callB c_lenS (by rfl) T.n_len b_len (pa_cons (pv 0) pa_nil)) pe_int (nomark _)) (pw_or (pt_cmpR op_gt (pe_callB c_lenS (by rfl) T.n_len b_len (pa_cons (pv 0) pa_nil)) pe_int (nomark _)) (pw_or1 (PW.pt (pw_and (pt_cmpR op_gt (pe_callB c_lenS (by rfl) T.n_len b_len (pa_cons (pv 0) pa_nil)) pe_int (nomark _)) (pw_and1 (pt_cmpR op_eq (pe_ix ix_str (pv 0) pe_int (fun _ _ => rfl)) pe_str (nomark _)))))))))
 (pss_one (ps_ret pe_bl))
 pss_nil)
 (pss_cons (ps_for PassesOwn.never rfl (pi_str (pv 0)) (pg_name (i := 1) sc_l_digits.nd rfl (Or.inl rfl))
 (pss_one (ps_if (pt_cmpR o_niS (pv 1) pe_str rfl)
 (pss_one (ps_ret pe_bl))
 pss_nil)))
 (pss_one (ps_ret pe_bl)))), ?_⟩
  obtain ⟨l, rfl, hl, k⟩ := h
  have d10 : (Str.ofString "0123456789").cps.toList = [48, 49, 50, 51, 52, 53, 54, 55, 56, 57] := by decide +kernel
  have z0 : Str.ofString "0" = SX.S [48] := by decide +kernel
  tm_at "go"
  · rename_i hc
    rw [SX.S_len] at hc
    refine k false ⟨(fun h => by cases h), fun h => ?_⟩
    exact absurd (List.eq_nil_of_length_eq_zero (by omega)) h.1.1
  · rename_i hc
    rw [SX.S_len] at hc
    refine k false ⟨(fun h => by cases h), fun h => ?_⟩
    have := h.2
    omega
  · rename_i hc1 hc2 hc3
    rw [SX.S_len] at hc1 hc2 hc3
    have ne : l ≠ [] := by intro z; rw [z] at hc1; exact hc1 (by decide)
    refine u_ixS (by rw [SX.S_len]; omega) (by omega) (by rw [SX.S_len]; omega) fun c hcc => ?_
    have hcc : l.head? = some c := by
      cases l with
      | nil => exact absurd rfl ne
      | cons a r =>
        have e : atI (a :: r) ((0 : Nat) : Int) = some a := atI_nat rfl
        have e2 : atI (a :: r) ((0 : Nat) : Int) = some c := hcc
        rw [e] at e2
        exact e2
    tm_at "run"
    · rename_i he
      rw [z0] at he
      have hc48 : c = 48 := by
        have e : SX.S [c] = SX.S [48] := he
        have := SX.S_inj e
        simpa using this
      refine k false ⟨(fun h => by cases h), fun h => ?_⟩
      exact absurd (by rw [hcc, hc48]) (h.1.2.2 (by omega))
    · rename_i he
      have hh : 1 < l.length → l.head? ≠ some 48 := by
        intro _ z
        rw [hcc] at z
        have z : c = 48 := by simpa using z
        exact he (by rw [z0, z])
      refine l_str (fun i σ H' => ∃ v, σ = [some (.str (SX.S l)), v] ∧ H' = H ∧ ∀ c ∈ l.take i, 48 ≤ c ∧ c ≤ 57) ?_ ?_ ?_
      · exact ⟨none, rfl, rfl, by simp⟩
      · rintro i c σ H' hx ⟨v, rfl, rfl, hd⟩
        have hx : l[i]? = some c := hx
        tm_at "run"
        · rename_i hn
          rw [d10] at hn
          simp only [List.mem_cons, List.not_mem_nil, or_false] at hn
          refine ⟨_, rfl, rfl, fun x hx2 => ?_⟩
          rw [Fr.take_more hx] at hx2
          rcases List.mem_append.mp hx2 with h | h
          · exact hd x h
          · rw [List.mem_singleton.mp h]; omega
        · rename_i hn
          refine k false ⟨(fun h => by cases h), fun h => ?_⟩
          have := h.1.2.1 c (List.mem_of_getElem? hx)
          rw [d10] at hn
          simp only [List.mem_cons, List.not_mem_nil, or_false] at hn
          omega
      · rintro σ H' ⟨v, rfl, rfl, hd⟩
        have hd : ∀ c ∈ l, 48 ≤ c ∧ c ≤ 57 := by
          have e : l.take (SX.S l).cps.toList.length = l := List.take_length
          rw [e] at hd
          exact hd
        tm_at "run"
        exact k true ⟨fun _ => ⟨⟨ne, hd, hh⟩, by omega⟩, fun _ => rfl⟩
  · rename_i hc1 hc2 hc3
    rw [SX.S_len] at hc1 hc2 hc3
    have ne : l ≠ [] := by intro z; rw [z] at hc1; exact hc1 (by decide)
    have hh : 1 < l.length → l.head? ≠ some 48 := by intro z; omega
    refine l_str (fun i σ H' => ∃ v, σ = [some (.str (SX.S l)), v] ∧ H' = H ∧ ∀ c ∈ l.take i, 48 ≤ c ∧ c ≤ 57) ?_ ?_ ?_
    · exact ⟨none, rfl, rfl, by simp⟩
    · rintro i c σ H' hx ⟨v, rfl, rfl, hd⟩
      have hx : l[i]? = some c := hx
      tm_at "run"
      · rename_i hn
        rw [d10] at hn
        simp only [List.mem_cons, List.not_mem_nil, or_false] at hn
        refine ⟨_, rfl, rfl, fun x hx2 => ?_⟩
        rw [Fr.take_more hx] at hx2
        rcases List.mem_append.mp hx2 with h | h
        · exact hd x h
        · rw [List.mem_singleton.mp h]; omega
      · rename_i hn
        refine k false ⟨(fun h => by cases h), fun h => ?_⟩
        have := h.1.2.1 c (List.mem_of_getElem? hx)
        rw [d10] at hn
        simp only [List.mem_cons, List.not_mem_nil, or_false] at hn
        omega
    · rintro σ H' ⟨v, rfl, rfl, hd⟩
      have hd : ∀ c ∈ l, 48 ≤ c ∧ c ≤ 57 := by
        have e : l.take (SX.S l).cps.toList.length = l := List.take_length
        rw [e] at hd
        exact hd
      tm_at "run"
      exact k true ⟨fun _ => ⟨⟨ne, hd, hh⟩, by omega⟩, fun _ => rfl⟩
theorem ok_l_read (T : Txt K mg CShare COddsError CBadShare CBadText CBadBook CBadMove CBadProgram CBadPlan CUnfit CTooLarge CBadEdit) : Fc P w K mg base CX0 2 "_law_read" ["text"] (spRead) := by
  refine fc_of T.d_l_read sc_l_read (fun vs H Q E h => by obtain ⟨a, rfl, hl, hG, hB⟩ := h; rfl) (fun _ _ _ _ _ _ us hl => match us, hl with | [_], _ => rfl) fun f cdv A outer s H vs Q E hr h => ⟨_, (pss_cons (ps_set (i := 1) sc_l_read.nd rfl (Or.inl rfl) (pe_bm PySem.F.plainAttrs_str PySem.F.slot_str_find PySem.F.type_str_find m_find (pv 0) (pa_cons pe_str pa_nil)))
 (pss_cons (ps_if (pt_cmpR op_lt (pv 1) pe_int (nomark _))
 (pss_one (ps_ret pe_non))
 pss_nil)
 (pss_cons (ps_set (i := 2) sc_l_read.nd rfl (Or.inl rfl) (pe_slice C8.sl_txt (pv 0) po_none (po_some (pv 1))))
 (pss_cons (ps_set (i := 3) sc_l_read.nd rfl (Or.inl rfl) (pe_cmpR op_eq (pe_slice C8.sl_txt (pv 2) po_none (po_some pe_int)) pe_str (nomark _)))
 (pss_cons (ps_if (pt_val (pv 3))
 (pss_one (ps_set (i := 2) sc_l_read.nd rfl (Or.inl rfl) (pe_slice C8.sl_txt (pv 2) (po_some pe_int) po_none)))
 pss_nil)
 (pss_cons (ps_if (PW.pt (pw_or (pt_not (pt_val (pe_fc (ok_l_digits T) pass0 (hr.mono (by decide)) (pa_cons (pv 2) pa_nil)))) (pw_or1 (pt_not (pt_val (pe_fc (ok_l_digits T) pass0 (hr.mono (by decide)) (pa_cons (pe_slice C8.sl_txt (pv 0) (po_some (pe_op op_add (pv 1) pe_int)) po_none) pa_nil)))))))
 (pss_one (ps_ret pe_non))
 pss_nil)
 (pss_cons (ps_par (i := 4) (j := 5) (by rfl) sc_l_read.nd rfl rfl (by decide) rfl rfl (pa_cons (pe_callTy c_intS (by rfl) T.n_int b_int (pa_cons (pv 2) pa_nil)) (pa_cons (pe_callTy c_intS (by rfl) T.n_int b_int (pa_cons (pe_slice C8.sl_txt (pv 0) (po_some (pe_op op_add (pv 1) pe_int)) po_none) pa_nil)) pa_nil)) (by rfl))
 (pss_cons (ps_if (PW.pt (pw_or (pt_cmpR op_lt (pv 5) pe_int (nomark _)) (pw_or (PW.pt (pw_and (pt_val (pv 3)) (pw_and1 (pt_cmpR op_eq (pv 4) pe_int (nomark _))))) (pw_or1 (pt_cmpR (neDK K hr.units) (pe_fc (ok_l_low T) pass0 (hr.mono (by decide)) (pa_cons (pv 4) (pa_cons (pv 5) pa_nil))) (pe_tup (pa_cons (pv 4) (pa_cons (pv 5) pa_nil))) (nomark _))))))
 (pss_one (ps_ret pe_non))
 pss_nil)
 (pss_cons (ps_if (pt_val (pv 3))
 (pss_one (ps_ret (pe_tup (pa_cons (pe_un un_neg (pv 4)) (pa_cons (pv 5) pa_nil)))))
 pss_nil)
 (pss_one (ps_ret (pe_tup (pa_cons (pv 4) (pa_cons (pv 5) pa_nil)))))))))))))), ?_⟩
  obtain ⟨a, rfl, hl, hG, hB⟩ := h
  have e0 : Str.ofString "/" = SX.S [47] := slash_S
  have em : Str.ofString "-" = SX.S [45] := minus_S
  rcases Tx.split47 a with h47 | ⟨p, q, rfl, h47⟩
  · have e1 : Txt.find (SX.S a) (Str.ofString "/") = -1 := by rw [e0]; exact Tx.find_none h47
    have bad : ¬ ∃ t b, Tx.Good a t b := by
      rintro ⟨t, b, g⟩
      rw [g.1] at h47
      exact h47 (by unfold Tx.shL; simp)
    tm_at "go"
    all_goals first
      | exact hB bad _ .refl
      | (exfalso; omega)
  · have e1 : Txt.find (SX.S (p ++ 47 :: q)) (Str.ofString "/") = (p.length : Int) := by rw [e0]; exact Tx.find_at h47
    have hl2 : p.length + (q.length + 1) ≤ 90000 := by rw [List.length_append, List.length_cons] at hl; exact hl
    have s1 : Txt.slice (SX.S (p ++ 47 :: q)) none (some (p.length : Int)) = SX.S p := SX.to_app p (47 :: q) rfl
    have s2 : Txt.slice (SX.S (p ++ 47 :: q)) (some ((p.length : Int) + 1)) none = SX.S q := by
      have := SX.from_app (p ++ [47]) q (i := (p.length : Int) + 1) (by simp)
      rw [List.append_assoc] at this
      exact this
    have s3 : Txt.slice (SX.S p) none (some 1) = SX.S (p.take 1) := SX.slice_to (by decide)
    have s4 : Txt.slice (SX.S p) (some 1) none = SX.S (p.drop 1) := SX.slice_from (by decide)
    tm_at "go"
    · exfalso; omega
    · rename_i hc1 hc
      rw [decide_eq_true hc]
      obtain ⟨r, rfl⟩ : ∃ r, p = 45 :: r := by
        rw [em] at hc
        have h := SX.S_inj hc
        cases p with
        | nil => simp at h
        | cons x r => exact ⟨r, by simpa using h⟩
      have dr : (45 :: r).drop 1 = r := rfl
      rw [dr] at s4 ⊢
      refine k_dig rfl (by rw [List.length_cons] at hl2; omega) fun b1 h1 => ?_
      tm_at "run"
      refine br_b (fun x1 => ?_) (fun x1 => ?_)
      · obtain ⟨c1, l1⟩ := h1.mp x1
        tm_at "run"
        refine k_dig rfl (by omega) fun b2 h2 => ?_
        tm_at "run"
        refine br_b (fun x2 => ?_) (fun x2 => ?_)
        · obtain ⟨c2, l2⟩ := h2.mp x2
          have i1 := Tx.int_of c1.1 c1.2.1 l1
          have i2 := Tx.int_of c2.1 c2.2.1 l2
          have v1 := val_bt c1 l1
          have v2 := val_bt c2 l2
          tm_at "run"
          · rename_i hd
            refine hB ?_ _ (by tm_at "kc")
            rintro ⟨t, b, g⟩
            have := (rd_minus h47 g).2.2.2
            have := g.2.1
            omega
          · rename_i hd hz
            refine hB ?_ _ (by tm_at "kc")
            rintro ⟨t, b, g⟩
            have := rd_minus h47 g
            omega
          · rename_i hd hz p1 H1 t b hn hk ho hf p2 H2 hn2 hk2 ho2
            have hd : 1 ≤ ((NumText.digitsVal q : Nat) : Int) := by omega
            refine ne_pair (hk2.get0 ho) ho2 ?_
            tm_at "run"
            by_cases e : t = ((NumText.digitsVal r : Nat) : Int) ∧ b = ((NumText.digitsVal q : Nat) : Int)
            · have g1 := low_one hf hd e
              rw [decide_eq_true e.1, decide_eq_true e.2, Bool.and_self]
              tm_at "run"
              rename_i p3 H3 hn3 hk3 ho3
              exact hG _ _ (mk_minus c1 l1 c2 l2 hd hz (by simpa using g1)) _ _ (by tm_at "kc") ho3
            · have ee : (decide (t = ((NumText.digitsVal r : Nat) : Int)) && decide (b = ((NumText.digitsVal q : Nat) : Int))) = false := by
                rw [Bool.and_eq_false_iff, decide_eq_false_iff_not, decide_eq_false_iff_not]
                by_cases z : t = ((NumText.digitsVal r : Nat) : Int)
                · exact .inr fun y => e ⟨z, y⟩
                · exact .inl z
              rw [ee]
              tm_at "run"
              refine hB ?_ _ (by tm_at "kc")
              rintro ⟨t', b', g⟩
              have w := rd_minus h47 g
              refine e (low_of hf hd ?_)
              have g2 := g.2.2.1
              have a1 : t'.natAbs = (((NumText.digitsVal r : Nat) : Int)).natAbs := by omega
              rw [a1, ← w.2.2.2] at g2
              exact g2
        · tm_at "run"
          refine hB ?_ _ .refl
          rintro ⟨t, b, g⟩
          obtain ⟨_, q2, _, _, _, _⟩ := good_parts h47 g
          rw [h2.mpr ⟨q2 ▸ Tx.canon_num _, q2 ▸ g.2.2.2.2⟩] at x2
          cases x2
      · tm_at "run"
        refine hB ?_ _ .refl
        rintro ⟨t, b, g⟩
        have w := (rd_minus h47 g).2.1
        rw [h1.mpr ⟨w ▸ Tx.canon_num _, w ▸ g.2.2.2.1⟩] at x1
        cases x1
    · rename_i hc1 hc
      rw [decide_eq_false hc]
      have np : p.take 1 ≠ [45] := by
        intro z
        exact hc (by rw [z, em])
      refine k_dig rfl (by omega) fun b1 h1 => ?_
      tm_at "run"
      refine br_b (fun x1 => ?_) (fun x1 => ?_)
      · obtain ⟨c1, l1⟩ := h1.mp x1
        tm_at "run"
        refine k_dig rfl (by omega) fun b2 h2 => ?_
        tm_at "run"
        refine br_b (fun x2 => ?_) (fun x2 => ?_)
        · obtain ⟨c2, l2⟩ := h2.mp x2
          have i1 := Tx.int_of c1.1 c1.2.1 l1
          have i2 := Tx.int_of c2.1 c2.2.1 l2
          have v1 := val_bt c1 l1
          have v2 := val_bt c2 l2
          tm_at "run"
          · rename_i hd
            refine hB ?_ _ (by tm_at "kc")
            rintro ⟨t, b, g⟩
            have := (rd_plain h47 np g).2.2.2
            have := g.2.1
            omega
          · rename_i hd p1 H1 t b hn hk ho hf p2 H2 hn2 hk2 ho2
            have hd : 1 ≤ ((NumText.digitsVal q : Nat) : Int) := by omega
            refine ne_pair (hk2.get0 ho) ho2 ?_
            tm_at "run"
            by_cases e : t = ((NumText.digitsVal p : Nat) : Int) ∧ b = ((NumText.digitsVal q : Nat) : Int)
            · have g1 := low_one hf hd e
              rw [decide_eq_true e.1, decide_eq_true e.2, Bool.and_self]
              tm_at "run"
              rename_i p3 H3 hn3 hk3 ho3
              exact hG _ _ (mk_plain c1 l1 c2 l2 hd (by simpa using g1)) _ _ (by tm_at "kc") ho3
            · have ee : (decide (t = ((NumText.digitsVal p : Nat) : Int)) && decide (b = ((NumText.digitsVal q : Nat) : Int))) = false := by
                rw [Bool.and_eq_false_iff, decide_eq_false_iff_not, decide_eq_false_iff_not]
                by_cases z : t = ((NumText.digitsVal p : Nat) : Int)
                · exact .inr fun y => e ⟨z, y⟩
                · exact .inl z
              rw [ee]
              tm_at "run"
              refine hB ?_ _ (by tm_at "kc")
              rintro ⟨t', b', g⟩
              have w := rd_plain h47 np g
              refine e (low_of hf hd ?_)
              have g2 := g.2.2.1
              have a1 : t'.natAbs = (((NumText.digitsVal p : Nat) : Int)).natAbs := by omega
              rw [a1, ← w.2.2.2] at g2
              exact g2
        · tm_at "run"
          refine hB ?_ _ .refl
          rintro ⟨t, b, g⟩
          obtain ⟨_, q2, _, _, _, _⟩ := good_parts h47 g
          rw [h2.mpr ⟨q2 ▸ Tx.canon_num _, q2 ▸ g.2.2.2.2⟩] at x2
          cases x2
      · tm_at "run"
        refine hB ?_ _ .refl
        rintro ⟨t, b, g⟩
        have w := (rd_plain h47 np g).2.1
        rw [h1.mpr ⟨w ▸ Tx.canon_num _, w ▸ g.2.2.2.1⟩] at x1
        cases x1
theorem ok_l_refused (T : Txt K mg CShare COddsError CBadShare CBadText CBadBook CBadMove CBadProgram CBadPlan CUnfit CTooLarge CBadEdit) : Fc P w K mg base CX0 5 "_law_refused" ["text"] (spRefu) := by
  refine fc_of T.d_l_refused sc_l_refused (fun vs H Q E h => by obtain ⟨a, rfl, hl, hn, k⟩ := h; rfl) (fun _ _ _ _ _ _ us hl => match us, hl with | [_], _ => rfl) fun f cdv A outer s H vs Q E hr h => ⟨_, (pss_cons (ps_set (i := 1) sc_l_refused.nd rfl (Or.inl rfl) pe_bl)
 (pss_cons (ps_try_as (i := 2) (Wout := fun _ _ _ _ => False) rfl rfl sc_l_refused.nd rfl rfl ⟨rfl, by decide, Or.inl T.e_OddsError.g⟩ takes0 (fun W pn xe tk _ =>
 (pss_one (ps_expr (pe_smN (ok_Share_parse T) (fun σ => passAt tk σ) (hr.mono (by decide)) (pe_glob (v := .ref CShare) rfl T.sh.g rfl) (pa_cons (pv 0) pa_nil)))))
 (fun a oe cls d pn hz hf =>
 (pss_cons (ps_set (i := 1) sc_l_refused.nd rfl (Or.inl rfl) (pe_and (pe_callB (c_isE hz hf) (by rfl) T.n_isinstance b_isinstance (pa_cons (pv 2) (pa_cons (pe_glob (v := .ref CBadShare) rfl T.e_BadShare.g rfl) pa_nil))) (pe_one (pe_callB (c_isE hz hf) (by rfl) T.n_isinstance b_isinstance (pa_cons (pv 2) (pa_cons (pe_bltn (v := .ty "ValueError") (by rfl) T.n_ValueError b_ValueError rfl) pa_nil))))))
 (pss_one (ps_if (pt_val (pe_callB (c_isET hz hf) (by rfl) T.n_isinstance b_isinstance (pa_cons (pv 2) (pa_cons (pe_tup (pa_cons (pe_glob (v := .ref CBadText) rfl T.e_BadText.g rfl) (pa_cons (pe_glob (v := .ref CBadBook) rfl T.e_BadBook.g rfl) (pa_cons (pe_glob (v := .ref CBadMove) rfl T.e_BadMove.g rfl) (pa_cons (pe_glob (v := .ref CBadProgram) rfl T.e_BadProgram.g rfl) (pa_cons (pe_glob (v := .ref CBadPlan) rfl T.e_BadPlan.g rfl) (pa_cons (pe_glob (v := .ref CUnfit) rfl T.e_Unfit.g rfl) (pa_cons (pe_glob (v := .ref CTooLarge) rfl T.e_TooLarge.g rfl) (pa_cons (pe_glob (v := .ref CBadEdit) rfl T.e_BadEdit.g rfl) pa_nil))))))))) pa_nil))))
 (pss_one (ps_set (i := 1) sc_l_refused.nd rfl (Or.inl rfl) pe_bl))
 pss_nil)))))
 (pss_one (ps_ret (pv 1))))), ?_⟩
  obtain ⟨a, rfl, hl, hn, k⟩ := h
  have S := T.sh
  have nos : ∀ C ∈ [CBadText, CBadBook, CBadMove, CBadProgram, CBadPlan, CUnfit, CTooLarge, CBadEdit], PySem.W.kitOne K (.ref CBadShare) (.ref C) = some false := by
    intro C hC
    simp only [List.mem_cons, List.not_mem_nil, or_false] at hC
    rcases hC with rfl | rfl | rfl | rfl | rfl | rfl | rfl | rfl
    · exact T.e_BadText.no T.no_BadText
    · exact T.e_BadBook.no T.no_BadBook
    · exact T.e_BadMove.no T.no_BadMove
    · exact T.e_BadProgram.no T.no_BadProgram
    · exact T.e_BadPlan.no T.no_BadPlan
    · exact T.e_Unfit.no T.no_Unfit
    · exact T.e_TooLarge.no T.no_TooLarge
    · exact T.e_BadEdit.no T.no_BadEdit
  tm_at "go"
  refine ⟨a, rfl, hl, fun t b g => absurd ⟨t, b, g⟩ hn, fun _ H1 k1 => ?_⟩
  refine ⟨true, T.e_OddsError.exm T.up, fun _ x nx => ?_, fun z => by cases z⟩
  tm_at "run"
  refine isE_self T.e_BadShare.e ?_
  tm_at "run"
  refine isE_VE T.e_BadShare.e T.upV ?_
  tm_at "run"
  rename_i tp H2 nt k2 ot
  refine isET_none [CBadText, CBadBook, CBadMove, CBadProgram, CBadPlan, CUnfit, CTooLarge, CBadEdit] T.e_BadShare.e ot nos ?_
  tm_at "run"
  exact k _ (by tm_at "kc")
theorem ok_l_text_holds (T : Txt K mg CShare COddsError CBadShare CBadText CBadBook CBadMove CBadProgram CBadPlan CUnfit CTooLarge CBadEdit) : Fc P w K mg base CX0 6 "_law_text_holds" ["text"] (spHold) := by
  refine fc_of T.d_l_text_holds sc_l_text_holds (fun vs H Q E h => by obtain ⟨a, rfl, hl, k⟩ := h; rfl) (fun _ _ _ _ _ _ us hl => match us, hl with | [_], _ => rfl) fun f cdv A outer s H vs Q E hr h => ⟨_, (pss_cons (ps_set (i := 1) sc_l_text_holds.nd rfl (Or.inl rfl) (pe_fc (ok_l_read T) pass0 (hr.mono (by decide)) (pa_cons (pv 0) pa_nil)))
 (pss_cons (ps_if (pt_cmpR o_isN (pv 1) pe_non (nomark _))
 (pss_one (ps_ret (pe_fc (ok_l_refused T) pass0 (hr.mono (by decide)) (pa_cons (pv 0) pa_nil))))
 pss_nil)
 (pss_cons (ps_set (i := 2) sc_l_text_holds.nd rfl (Or.inl rfl) (pe_smN (ok_Share_parse T) (passAll passL) (hr.mono (by decide)) (pe_glob (v := .ref CShare) rfl T.sh.g rfl) (pa_cons (pv 0) pa_nil)))
 (pss_one (ps_ret (pe_and (pe_fc (ok_l_fields T) pass0 (hr.mono (by decide)) (pa_cons (pv 2) (pa_cons (pv 1) pa_nil))) (pe_one (pe_cmpR op_eq (pe_callTy (call_strOwn (ok_Share___str__ T) pass0 (hr.mono (by decide))) (by rfl) T.n_str b_str (pa_cons (pv 2) pa_nil)) (pv 0) (nomark _))))))))), ?_⟩
  obtain ⟨a, rfl, hl, k⟩ := h
  have S := T.sh
  by_cases g : ∃ t b, Tx.Good a t b
  · obtain ⟨t, b, g⟩ := g
    tm_at "go"
    refine ⟨a, rfl, hl, fun t' b' g' p H1 k1 o1 => ?_, fun n => absurd ⟨t, b, g⟩ n⟩
    obtain ⟨rfl, rfl⟩ := g.uniq g'
    have bt : ∀ x : Int, (TL.numL x.natAbs).length ≤ 60 → Bt 1900 x := fun x h => by
      have v := Tx.val_lt _ _ rfl (Tx.dg_num x.natAbs)
      rw [TL.numL_val] at v
      have p6 : (10 : Nat) ^ 60 ≤ 2 ^ 1900 := by decide +kernel
      exact Nat.lt_of_lt_of_le (Nat.lt_of_lt_of_le v (Nat.pow_le_pow_right (by decide) h)) p6
    have b1 := bt t g.2.2.2.1
    have b2 := bt b g.2.2.2.2
    tm_at "run"
    refine ⟨a, rfl, hl, fun t' b' g' q H2 k2 s2 => ?_, fun n => absurd ⟨_, _, g⟩ n⟩
    obtain ⟨rfl, rfl⟩ := g.uniq g'
    tm_at "run"
    have e : decide (SX.S (Tx.shL t b) = SX.S a) = true := decide_eq_true (by rw [g.1])
    show Q (V.bl (decide (SX.S (Tx.shL t b) = SX.S a))) _
    rw [e]
    exact k _ (by tm_at "kc")
  · tm_at "go"
    refine ⟨a, rfl, hl, fun t' b' g' => absurd ⟨t', b', g'⟩ g, fun _ H1 k1 => ?_⟩
    tm_at "run"
    exact ⟨a, rfl, hl, g, fun H2 k2 => k _ (by tm_at "kc")⟩

end
end My
set_option Elab.async false
set_option linter.all false
set_option autoImplicit false
set_option maxRecDepth 100000
set_option maxHeartbeats 4000000
namespace My
open PySem PySem.Spec PyProof.Rows L2 U
/-! my own steps: rows of tactics, tried from above -/
local macro_rules | `(tactic| tm_at "lk") => `(tactic| first | with_reducible assumption | (with_reducible refine' Kp.get0 ?k1 ?k2; (case k1 => with_reducible assumption); (case k2 => tm_at "lk")) | (with_reducible refine' Kp.get1 ?k1 ?k3 ?k2; (case k1 => with_reducible assumption); (case k3 => tm_at "ne"); (case k2 => tm_at "lk")) | fail)
local macro_rules | `(tactic| tm_at "lp") => `(tactic| first | with_reducible assumption | (with_reducible refine' Pool.kp0 ?k1 ?k2; (case k1 => with_reducible assumption); (case k2 => tm_at "lp")) | (with_reducible refine' Pool.kp1 ?k1 ?k3 ?k2; (case k1 => with_reducible assumption); (case k3 => tm_at "ne"); (case k2 => tm_at "lp")) | fail)
local macro_rules | `(tactic| tm_at "ls") => `(tactic| first | with_reducible assumption | (with_reducible refine' Scr.kp0 ?k1 ?k2; (case k1 => with_reducible assumption); (case k2 => tm_at "ls")) | (with_reducible refine' Scr.kp1 ?k1 ?k3 ?k4 ?k2; (case k1 => with_reducible assumption); (case k3 => with_reducible assumption); (case k4 => tm_at "ls"); (case k2 => tm_at "ls")) | fail)
local macro_rules | `(tactic| tm_at "ne") => `(tactic| first | with_reducible assumption | (with_reducible refine' Ne.symm ?k1; with_reducible assumption) | (with_reducible refine' ne_new ?k1 ?k2; (case k1 => with_reducible assumption); (case k2 => tm_at "lk")) | (with_reducible refine' ne_new' ?k1 ?k2; (case k1 => with_reducible assumption); (case k2 => tm_at "lk")) | (with_reducible refine' Pool.ne ?k1 ?k2; (case k1 => with_reducible assumption); (case k2 => tm_at "lp")) | (with_reducible refine' Ne.symm (Pool.ne ?k1 ?k2); (case k1 => with_reducible assumption); (case k2 => tm_at "lp")) | fail)
local macro_rules | `(tactic| tm_at "kc") => `(tactic| first | with_reducible assumption | with_reducible exact Kp.refl | (with_reducible refine' Kp.trans ?k1 (Kp.of0 ?k2); (case k2 => with_reducible assumption); (case k1 => tm_at "kc")) | (with_reducible refine' Kp.trans ?k1 ?k2; (case k2 => with_reducible assumption); (case k1 => tm_at "kc")) | (with_reducible refine' Kp.low' ?k1 ?k2 ?k3 ?k4; (case k2 => with_reducible assumption); (case k3 => with_reducible assumption); (case k1 => tm_at "kc"); (case k4 => tm_at "kc")) | fail)
local macro_rules | `(tactic| tm_at "sq") => `(tactic| first | (with_reducible refine' sql ?k9; (case k9 => tm_at "lk")) | (with_reducible refine' Scr.sq ?k9; (case k9 => tm_at "ls")) | fail)
local macro_rules | `(tactic| tm_at "sqt") => `(tactic| first | (with_reducible refine' sqt ?k9; (case k9 => tm_at "lk")) | fail)
local macro_rules | `(tactic| tm_at "bt") => `(tactic| first | with_reducible assumption | (with_reducible refine' Bt.mul ?k1 ?k2; (case k1 => tm_at "bt"); (case k2 => tm_at "bt")) | (with_reducible refine' Bt.addM ?k1 ?k2; (case k1 => tm_at "bt"); (case k2 => tm_at "bt")) | (with_reducible refine' Bt.subM ?k1 ?k2; (case k1 => tm_at "bt"); (case k2 => tm_at "bt")) | (with_reducible refine' Bt.neg ?k1; (case k1 => tm_at "bt")) | fail)
local macro_rules | `(tactic| tm_at "bm") => `(tactic| first | with_reducible assumption | (with_reducible refine' Bt.mono ?k1 ?k2; (case k1 => with_reducible assumption); (case k2 => k_dflt decide)) | fail)
local macro_rules | `(tactic| tm_at "side") => `(tactic| first | with_reducible assumption | (with_reducible refine' Bt.cmul ?k1 ?k2 ?k3; (case k1 => tm_at "bt"); (case k2 => tm_at "bt"); (case k3 => k_dflt decide)) | (with_reducible refine cmul_of ?k1; (case k1 => omega)) | (with_reducible refine cpow_of ?k1; (case k1 => omega)) | (with_reducible refine cdivw_of ?k1; (case k1 => omega)) | (with_reducible refine cdivw_big ?k1; (case k1 => omega)) | (with_reducible refine cmulx_of ?k1; (case k1 => omega)) | omega | fail)
local macro_rules | `(tactic| tm_at "step") => `(tactic| first
  | with_reducible refine u_op ?_
  | (with_reducible refine' u_var ?k1 ?_; (case k1 => k_dflt rfl))
  | with_reducible refine u_c ?_
  | with_reducible refine u_I0 ?_
  | with_reducible refine u_seq ?_
  | with_reducible refine u_asg ?_
  | with_reducible refine g_name ?_
  | with_reducible refine u_cb ?_
  | with_reducible refine u_cons ?_
  | with_reducible refine u_nil ?_
  | (with_reducible refine' u_pow ?k1 ?k2 ?_; (case k1 => k_dflt (tm_at "side")); (case k2 => (conv => lhs; simp only [Int.reduceToNat, Int.reducePow]) <;> rfl))
  | (with_reducible refine' u_I ?k1 ?_; (case k1 => k_dflt (tm_at "side")))
  | with_reducible refine u_int1 ?_
  | with_reducible refine u_intB ?_
  | with_reducible refine u_if ?_
  | with_reducible refine u_test ?_
  | with_reducible refine u_tb ?_
  | with_reducible refine u_tB ?_
  | with_reducible refine u_eqI ?_
  | with_reducible refine u_neI ?_
  | with_reducible refine u_eqB ?_
  | with_reducible refine u_and ?_
  | with_reducible refine u_or ?_
  | with_reducible refine u_not ?_
  | with_reducible refine u_andV ?_
  | with_reducible refine u_orV ?_
  | with_reducible refine u_notV ?_
  | with_reducible refine br_t ?_
  | with_reducible refine br_f ?_
  | with_reducible refine br_nt ?_
  | with_reducible refine br_nf ?_
  | with_reducible refine br_n ?_
  | with_reducible refine u_ret ?_
  | with_reducible refine u_next ?_
  | with_reducible refine u_drop ?_
  | with_reducible refine u_un ?_
  | with_reducible refine u_U ?_
  | with_reducible refine u_call ?_
  | with_reducible refine u_fldN ?_
  | with_reducible refine g_sub ?_
  | with_reducible refine g_cons ?_
  | with_reducible refine g_nil ?_
  | with_reducible refine u_tpar ?_
  | (with_reducible refine u_absL ?_; intro m_ h1_ h2_)
  | (with_reducible refine u_maxL ?_; intro m_ h1_ h2_ h3_)
  | (with_reducible refine u_minL ?_; intro m_ h1_ h2_ h3_)
  | with_reducible refine u_gcd ?_
  | with_reducible refine u_isi_ii ?_
  | with_reducible refine u_isi_ib ?_
  | with_reducible refine u_isi_bb ?_
  | with_reducible refine u_tupN ?_
  | with_reducible refine u_lstN ?_
  | (with_reducible refine' u_ixL ?k1 ?k2 ?_; (case k1 => tm_at "sq"); (case k2 => first | with_reducible assumption | k_dflt rfl))
  | (with_reducible refine' u_ixT ?k1 ?k2 ?_; (case k1 => tm_at "sqt"); (case k2 => k_dflt rfl))
  | (with_reducible refine' g_tup ?k1 ?k2 ?_; (case k1 => tm_at "sqt"); (case k2 => k_dflt rfl))
  | (with_reducible refine' u_lenL ?k1 ?_; (case k1 => tm_at "sq"))
  | (with_reducible refine' u_lenT ?k1 ?_; (case k1 => tm_at "sqt"))
  | with_reducible refine u_for ?_
  | with_reducible refine u_iL ?_
  | with_reducible refine u_iT ?_
  | with_reducible refine u_r1 ?_
  | with_reducible refine u_r2 ?_
  | (with_reducible refine' u_iLq ?k1 ?_; (case k1 => tm_at "sq"))
  | (with_reducible refine' u_iTq ?k1 ?_; (case k1 => tm_at "sqt"))
  | (with_reducible refine' u_r1q ?k1 ?_; (case k1 => (constructor <;> omega)))
  | (with_reducible refine' u_r2q ?k1 ?_; (case k1 => (refine ⟨?_, ?_, ?_, ?_⟩ <;> omega)))
  | with_reducible refine u_lc ?_
  | with_reducible refine u_yes ?_
  | (with_reducible refine endQ ?k1 ?_; (case k1 => k_dflt rfl))
  | with_reducible refine u_meth ?_
  | with_reducible refine u_callS ?_
  | with_reducible refine u_bm ?_
  | (with_reducible refine' bm_list ?k1 ?_; (case k1 => tm_at "lk"))
  | (with_reducible refine' u_append ?k1 ?k2 ?_; (case k1 => tm_at "lk"); (case k2 => omega); intro H_ hk_ ho_)
  | (with_reducible refine' appE ?k1 ?k2 ?_; (case k1 => tm_at "lk"); (case k2 => omega); intro H_ hk_ ho_)
  | with_reducible refine u_sl ?_
  | with_reducible refine u_noPart ?_
  | with_reducible refine u_part ?_
  | with_reducible refine u_intq ?_
  | (with_reducible refine' u_slL ?k1 ?_; (case k1 => tm_at "sq"); intro p_ H_ hn_ hk_ ho_)
  | (with_reducible refine' n_tup ?k1 ?_; (case k1 => k_dflt (exact Nat.le_of_ble_eq_true rfl)); intro p_ H_ hn_ hk_ ho_)
  | (with_reducible refine' n_lst ?k1 ?_; (case k1 => k_dflt (exact Nat.le_of_ble_eq_true rfl)); intro p_ H_ hn_ hk_ ho_)
  | (with_reducible refine' s_list ?k1 ?k2 ?_; (case k1 => tm_at "lk"); (case k2 => k_dflt rfl); intro H_ hk_ ho_)
  | (with_reducible refine br_d ?_ ?_ <;> intro hc_) | fail)
local macro_rules | `(tactic| tm_at "run") => `(tactic| repeat' tm_at "step")
local macro_rules | `(tactic| tm_at "go") => `(tactic| ((try dsimp only [cxOf, Cx.nox, Cx.wish]); tm_at "run"))

local macro_rules | `(tactic| tm_at "sh") => `(tactic| first | with_reducible assumption | (with_reducible refine' ShAt.kp0 ?k1 ?k2; (case k1 => with_reducible assumption); (case k2 => tm_at "sh")) | (with_reducible refine' ShAt.kp1 ?k1 ?k3 ?k2; (case k1 => with_reducible assumption); (case k3 => tm_at "ne"); (case k2 => tm_at "sh")) | fail)
local macro_rules | `(tactic| tm_at "step") => `(tactic| first | (with_reducible refine' fld_top (by assumption) ?k1 ?_; (case k1 => tm_at "sh")) | fail)
local macro_rules | `(tactic| tm_at "step") => `(tactic| first | (with_reducible refine' fld_bottom (by assumption) ?k1 ?_; (case k1 => tm_at "sh")) | fail)
local macro_rules | `(tactic| tm_at "step") => `(tactic| first | (with_reducible refine' isi_share (by assumption) ?k1 ?_; (case k1 => tm_at "sh")) | fail)
local macro_rules | `(tactic| tm_at "step") => `(tactic| first | with_reducible refine u_newI ?_ | fail)
local macro_rules | `(tactic| tm_at "step") => `(tactic| first | with_reducible refine u_newK ?_ | fail)
local macro_rules | `(tactic| tm_at "step") => `(tactic| first | with_reducible refine newK rfl rfl ?_ | fail)
local macro_rules | `(tactic| tm_at "step") => `(tactic| first | with_reducible refine u_sfld ?_ | fail)
local macro_rules | `(tactic| tm_at "b1") => `(tactic| first | with_reducible assumption | omega)
local macro_rules | `(tactic| tm_at "step") => `(tactic| first | (with_reducible refine' k_opA ?k1 ?k2 ?k3 ?k4 ?k5 ?k6 ?k7 ?k8 ?k9 ?k10 ?_; (case k1 => tm_at "sh"); (case k2 => tm_at "sh"); (case k3 => tm_at "b1"); (case k4 => tm_at "b1"); (case k5 => with_reducible assumption); (case k6 => with_reducible assumption); (case k7 => with_reducible assumption); (case k8 => with_reducible assumption); (case k9 => k_dflt decide); (case k10 => k_dflt decide); intro r_ H_ x_ y_ hn_ hk_ hs_ hf_ hy_ hbx_ hby_) | fail)
local macro_rules | `(tactic| tm_at "step") => `(tactic| first | (with_reducible refine' k_opS ?k1 ?k2 ?k3 ?k4 ?k5 ?k6 ?k7 ?k8 ?k9 ?k10 ?_; (case k1 => tm_at "sh"); (case k2 => tm_at "sh"); (case k3 => tm_at "b1"); (case k4 => tm_at "b1"); (case k5 => with_reducible assumption); (case k6 => with_reducible assumption); (case k7 => with_reducible assumption); (case k8 => with_reducible assumption); (case k9 => k_dflt decide); (case k10 => k_dflt decide); intro r_ H_ x_ y_ hn_ hk_ hs_ hf_ hy_ hbx_ hby_) | fail)
local macro_rules | `(tactic| tm_at "step") => `(tactic| first | (with_reducible refine' k_opM ?k1 ?k2 ?k3 ?k4 ?k5 ?k6 ?k7 ?k8 ?k9 ?k10 ?_; (case k1 => tm_at "sh"); (case k2 => tm_at "sh"); (case k3 => tm_at "b1"); (case k4 => tm_at "b1"); (case k5 => with_reducible assumption); (case k6 => with_reducible assumption); (case k7 => with_reducible assumption); (case k8 => with_reducible assumption); (case k9 => k_dflt decide); (case k10 => k_dflt decide); intro r_ H_ x_ y_ hn_ hk_ hs_ hf_ hy_ hbx_ hby_) | fail)
local macro_rules | `(tactic| tm_at "step") => `(tactic| first | (with_reducible refine' k_draw ?k1 ?k2 ?_; (case k1 => tm_at "lp"); (case k2 => k_dflt omega); intro r_ H_ h0_ h1_ hk_ hp_) | fail)
local macro_rules | `(tactic| tm_at "step") => `(tactic| first | with_reducible refine k_int ?_ | fail)
local macro_rules | `(tactic| tm_at "step") => `(tactic| first | (with_reducible refine' k_pool ?k1 ?k2 ?_; (case k1 => tm_at "ls"); (case k2 => k_dflt (tm_at "side")); intro p_ H_ hn_ hk_ hp_) | fail)
local macro_rules | `(tactic| tm_at "ln") => `(tactic| first | with_reducible assumption | omega | (simp only [SX.S_len, Str.length_append]; omega) | fail)
local macro_rules | `(tactic| tm_at "lg") => `(tactic| first | with_reducible assumption | (with_reducible refine' bt_log ?k1; (case k1 => tm_at "bm")) | fail)
local macro_rules | `(tactic| tm_at "step") => `(tactic| first
  | with_reducible refine u_eqS ?_
  | with_reducible refine u_neS ?_
  | with_reducible refine bm_str ?_
  | with_reducible refine u_bm0 ?_
  | with_reducible refine u_find ?_
  | with_reducible refine u_asc ?_
  | with_reducible refine u_dgt ?_
  | with_reducible refine u_inS ?_
  | with_reducible refine u_niS ?_
  | with_reducible refine u_isNn ?_
  | with_reducible refine u_isNr ?_
  | (with_reducible refine' u_partS ?k1 ?k2 ?_; (case k1 => k_dflt rfl); (case k2 => tm_at "ln"); intro p_ H_ hn_ hk_ ho_)
  | (with_reducible refine' u_rmp ?k1 ?_; (case k1 => tm_at "ln"))
  | (with_reducible refine' u_addS ?k1 ?_; (case k1 => tm_at "ln"))
  | (with_reducible refine' u_lenS ?k1 ?_; (case k1 => tm_at "ln"))
  | (with_reducible refine' u_strI ?k1 ?_; (case k1 => tm_at "lg"))
  | (with_reducible refine' u_slX ?k1 ?_; (case k1 => tm_at "ln"))
  | with_reducible refine u_iS ?_
  | with_reducible refine u_iSq ?_
  | with_reducible refine u_join ?_
  | with_reducible refine js_cons ?_
  | with_reducible refine js_nil ?_
  | (with_reducible refine' jsQ ?k1 ?_; (case k1 => tm_at "ln"))
  | with_reducible refine u_fmt ?_
  | (with_reducible refine' fmtI ?k1 ?_; (case k1 => tm_at "lg"))
  | with_reducible refine u_smQ ?_
  | with_reducible refine smQ ?_
  | with_reducible refine u_smI ?_
  | (with_reducible refine' u_catL ?k1 ?k2 ?k3 ?_; (case k1 => tm_at "lk"); (case k2 => tm_at "lk"); (case k3 => k_dflt (exact Nat.le_of_ble_eq_true rfl)); intro p_ H_ hn_ hk_ ho_)
  | fail)
local macro_rules | `(tactic| tm_at "step") => `(tactic| first
  | (with_reducible refine' u_partN ?k0 ?k1 ?k2 ?_; (case k0 => with_reducible assumption); (case k1 => k_dflt rfl); (case k2 => tm_at "ln"); intro p_ H_ hn_ hk_ ho_)
  | (with_reducible refine' u_rmpN ?k0 ?k1 ?_; (case k0 => with_reducible assumption); (case k1 => tm_at "ln"))
  | (with_reducible refine' u_findN ?k0 ?_; (case k0 => with_reducible assumption))
  | (with_reducible refine' u_slN ?k0 ?k1 ?_; (case k0 => with_reducible assumption); (case k1 => tm_at "ln"))
  | (with_reducible refine' u_intS ?k0 ?k1 ?_; (case k0 => with_reducible assumption); (case k1 => tm_at "ln"))
  | fail)
local macro_rules | `(tactic| tm_at "step") => `(tactic| first | (with_reducible refine' k_size ?k1 ?_; (case k1 => tm_at "lp"); intro r_ H_ h0_ h1_ hk_ hp_) | fail)
local macro_rules | `(tactic| tm_at "step") => `(tactic| first | (with_reducible refine' k_frac6 ?k1 ?_; (case k1 => tm_at "lp"); intro p_ u_ d_ H_ hk_ hp_ hf_) | fail)
local macro_rules | `(tactic| tm_at "step") => `(tactic| first | (with_reducible refine' k_low ?k0 ?k1 ?k2 ?_; (case k0 => k_dflt rfl); (case k1 => tm_at "b1"); (case k2 => tm_at "bm"); intro p_ H_ t_ b_ hn_ hk_ ho_ hf_) | fail)
local macro_rules | `(tactic| tm_at "step") => `(tactic| first | (with_reducible refine' k_txt ?k1 ?_; (case k1 => tm_at "lp"); intro z_ H_ hz_ hk_ hp_) | fail)
local macro_rules | `(tactic| tm_at "step") => `(tactic| first | (with_reducible refine' k_chg ?k1 ?k2 ?_; (case k1 => tm_at "lp"); (case k2 => omega); intro z_ H_ hz_ hk_ hp_) | fail)
local macro_rules | `(tactic| tm_at "step") => `(tactic| first | (with_reducible refine' k_odd ?k1 ?k2 ?k3 ?_; (case k1 => tm_at "lp"); (case k2 => omega); (case k3 => omega); intro z_ H_ hz_ hk_ hp_) | fail)
local macro_rules | `(tactic| tm_at "step") => `(tactic| first | (with_reducible refine' k_sec ?k1 ?k2 ?k3 ?k4 ?_; (case k1 => tm_at "lp"); (case k2 => tm_at "lk"); (case k3 => with_reducible assumption); (case k4 => with_reducible assumption); intro z_ H_ hz_ hk_ hp_) | fail)
local macro_rules | `(tactic| tm_at "step") => `(tactic| first | (with_reducible refine' k_strOwn ?k1 ?k2 ?k3 ?_; (case k1 => tm_at "sh"); (case k2 => tm_at "bm"); (case k3 => tm_at "bm")) | fail)
local macro_rules | `(tactic| tm_at "step") => `(tactic| first | (with_reducible refine' k_uns ?k0 ?k1 ?_; (case k0 => k_dflt rfl); (case k1 => tm_at "ln")) | fail)
local macro_rules | `(tactic| tm_at "step") => `(tactic| first | (with_reducible refine' k_share ?k1 ?k2 ?_; (case k1 => tm_at "b1"); (case k2 => tm_at "bm"); intro p_ H_ t_ b_ hn_ hk_ hs_ hf_) | fail)
local macro_rules | `(tactic| tm_at "step") => `(tactic| first | (with_reducible refine' k_share1 ?_; intro p_ H_ t_ b_ hn_ hk_ hs_ hf_) | fail)
local macro_rules | `(tactic| tm_at "step") => `(tactic| first | (with_reducible refine' k_fields ?k0 ?k1 ?k2 ?k3 ?_; (case k0 => k_dflt rfl); (case k1 => tm_at "sh"); (case k2 => tm_at "lk"); (case k3 => first | with_reducible assumption | exact ⟨rfl, rfl⟩)) | fail)
local macro_rules | `(tactic| tm_at "step") => `(tactic| first | (with_reducible refine' k_hold ?k0 ?k1 ?_; (case k0 => k_dflt rfl); (case k1 => tm_at "ln"); intro H_ hk_) | fail)
section
variable {P : Program} {w : World} {K : PySem.W.Frag} {mg : Str → Option Value} {base : Heap} {CShare COddsError CBadShare CBadText CBadBook CBadMove CBadProgram CBadPlan CUnfit CTooLarge CBadEdit : Addr}
theorem bt_pow {n : Nat} {x : Int} (h : Bt n x) : ∀ m : Nat, Bt (n * (m + 1)) (x ^ (m + 1))
  | 0 => by rw [Nat.zero_add, Nat.mul_one, Int.pow_succ, Int.pow_zero, Int.one_mul]; exact h
  | m + 1 => by
    rw [Int.pow_succ, Nat.mul_add n (m + 1) 1, Nat.mul_one]
    exact (bt_pow h m).mul h
theorem pow_one' (x : Int) : x ^ (0 + 1) = x := by rw [Int.pow_succ, Int.pow_zero, Int.one_mul]
theorem ok_law (T : Txt K mg CShare COddsError CBadShare CBadText CBadBook CBadMove CBadProgram CBadPlan CUnfit CTooLarge CBadEdit) {f0 : Addr} {fd : FuncData} (F : Fun K "law" "law" s_law f0 fd) : FnOk P w K mg base CX0 7 f0 fd ["script"] (spLaw K) := by
  refine F.ok sc_law (fun vs H Q E h => by obtain ⟨a, ns, rfl, hs, k⟩ := h; rfl) fun cdv A outer s H vs Q E hr h => ⟨_, (pss_cons (ps_asg (pe_fc (ok_l_fraction T) pass0 (hr.mono (by decide)) (pa_cons (pe_fc (ok_l_stirred T) pass0 (hr.mono (by decide)) (pa_cons (pv 0) (pa_cons pe_int pa_nil))) pa_nil)) (pgTK K 2 (by rfl) (pgs_cons (pg_name (i := 1) sc_law.nd rfl (Or.inl rfl)) (pgs_cons (pg_name (i := 2) sc_law.nd rfl (Or.inl rfl)) pgs_nil))))
 (pss_cons (ps_set (i := 3) sc_law.nd rfl (Or.inl rfl) (pe_fc (ok_l_low T) pass0 (hr.mono (by decide)) (pa_cons (pv 1) (pa_cons (pv 2) pa_nil))))
 (pss_cons (ps_set (i := 4) sc_law.nd rfl (Or.inl rfl) (pe_op o_addS (pe_op o_addS (pe_callTy c_strI (by rfl) T.n_str b_str (pa_cons (pe_ix (ixtK K) (pv 3) pe_int (fun _ _ => rfl)) pa_nil)) pe_str) (pe_callTy c_strI (by rfl) T.n_str b_str (pa_cons (pe_ix (ixtK K) (pv 3) pe_int (fun _ _ => rfl)) pa_nil))))
 (pss_cons (ps_set (i := 5) sc_law.nd rfl (Or.inl rfl) (pe_fc (ok_l_second_text T) pass0 (hr.mono (by decide)) (pa_cons (pe_fc (ok_l_stirred T) pass0 (hr.mono (by decide)) (pa_cons (pv 0) (pa_cons pe_int pa_nil))) (pa_cons (pv 3) pa_nil))))
 (pss_cons (ps_set (i := 6) sc_law.nd rfl (Or.inl rfl) (pe_sh (ok_Share T) (passAll passL) (hr.mono (by decide)) (pa_cons (pv 1) (pa_cons (pv 2) pa_nil))))
 (pss_cons (ps_set (i := 7) sc_law.nd rfl (Or.inl rfl) (pv 6))
 (pss_cons (ps_set (i := 8) sc_law.nd rfl (Or.inl rfl) (pv 3))
 (pss_cons (ps_for PassesOwn.never rfl (pi_range1 (by rfl) T.n_range (pa_cons (pe_fc (ok_l_draw T) pass0 (hr.mono (by decide)) (pa_cons (pe_fc (ok_l_stirred T) pass0 (hr.mono (by decide)) (pa_cons (pv 0) (pa_cons pe_int pa_nil))) (pa_cons pe_int pa_nil))) pa_nil)) (pg_name (i := 9) sc_law.nd rfl (Or.inl rfl))
 (pss_cons (ps_set (i := 7) sc_law.nd rfl (Or.inl rfl) (pe_op (op_mc (ok_Share___mul__ T) T.sh.sf passL (hr.mono (by decide))) (pv 7) (pv 6)))
 (pss_one (ps_set (i := 8) sc_law.nd rfl (Or.inl rfl) (pe_tup (pa_cons (pe_op op_mulX (pe_ix (ixtK K) (pv 8) pe_int (fun _ _ => rfl)) (pe_ix (ixtK K) (pv 3) pe_int (fun _ _ => rfl))) (pa_cons (pe_op op_mulX (pe_ix (ixtK K) (pv 8) pe_int (fun _ _ => rfl)) (pe_ix (ixtK K) (pv 3) pe_int (fun _ _ => rfl))) pa_nil)))))))
 (pss_cons (ps_if (PW.pt (pw_or (pt_cmpR op_ne (pe_callTy (call_strOwn (ok_Share___str__ T) pass0 (hr.mono (by decide))) (by rfl) T.n_str b_str (pa_cons (pv 6) pa_nil)) (pv 4) (nomark _)) (pw_or1 (pt_cmpR op_ne (pe_callTy (call_strOwn (ok_Share___str__ T) pass0 (hr.mono (by decide))) (by rfl) T.n_str b_str (pa_cons (pv 7) pa_nil)) (pe_op o_addS (pe_op o_addS (pe_callTy c_strI (by rfl) T.n_str b_str (pa_cons (pe_ix (ixtK K) (pv 8) pe_int (fun _ _ => rfl)) pa_nil)) pe_str) (pe_callTy c_strI (by rfl) T.n_str b_str (pa_cons (pe_ix (ixtK K) (pv 8) pe_int (fun _ _ => rfl)) pa_nil))) (nomark _)))))
 (pss_one (ps_ret pe_bl))
 pss_nil)
 (pss_cons (ps_if (PW.pt (pw_or (pt_not (pt_val (pe_fc (ok_l_text_holds T) pass0 (hr.mono (by decide)) (pa_cons (pv 5) pa_nil)))) (pw_or (pt_not (pt_val (pe_fc (ok_l_text_holds T) pass0 (hr.mono (by decide)) (pa_cons (pv 4) pa_nil)))) (pw_or1 (pt_not (pt_val (pe_fc (ok_l_text_holds T) pass0 (hr.mono (by decide)) (pa_cons (pv 5) pa_nil))))))))
 (pss_one (ps_ret pe_bl))
 pss_nil)
 (pss_cons (ps_if (pt_not (pt_val (pe_fc (ok_l_text_holds T) pass0 (hr.mono (by decide)) (pa_cons (pe_op o_addS (pe_op o_addS (pe_callTy c_strI (by rfl) T.n_str b_str (pa_cons (pe_ix (ixtK K) (pv 8) pe_int (fun _ _ => rfl)) pa_nil)) pe_str) (pe_callTy c_strI (by rfl) T.n_str b_str (pa_cons (pe_ix (ixtK K) (pv 8) pe_int (fun _ _ => rfl)) pa_nil))) pa_nil))))
 (pss_one (ps_ret pe_bl))
 pss_nil)
 (pss_cons (ps_set (i := 10) sc_law.nd rfl (Or.inl rfl) (pe_smJ (ok_Share_parse T) (passAll passL) (hr.mono (by decide)) (pv 6) (pa_cons (pv 4) pa_nil)))
 (pss_one (ps_ret (pe_and (pe_fc (ok_l_fields T) pass0 (hr.mono (by decide)) (pa_cons (pv 10) (pa_cons (pv 3) pa_nil))) (pe_and (pe_fc (ok_l_fields T) pass0 (hr.mono (by decide)) (pa_cons (pv 6) (pa_cons (pv 3) pa_nil))) (pe_one (pe_cmpR op_eq (pe_callTy (call_strOwn (ok_Share___str__ T) pass0 (hr.mono (by decide))) (by rfl) T.n_str b_str (pa_cons (pv 10) pa_nil)) (pv 4) (nomark _))))))))))))))))))), ?_⟩
  obtain ⟨a, ns, rfl, hs, k⟩ := h
  have S := T.sh
  have c_0 : (Str.ofString "/").length = 1 := by decide +kernel
  tm_at "go"
  rename_i p H1 hn hk1 hp q u d H2 hk2 hp2 hf
  have npa := hs
  have ms : ∀ H', Kp [p] H1 H' → Scr K H' a ns := fun H' kk => Scr.kp1 kk hn hs (Scr.kp0 hk1 hs)
  have hs2 := ms H2 hk2
  have bu : Bt 200 u := bt200 (by have := hf.u0; have := hf.u1; omega)
  have bd : Bt 200 d := bt200 (by have := hf.d1; have := hf.d2; omega)
  have d1 := hf.d1
  refine g_tup (sqt hf.e) rfl ?_
  tm_at "run"
  rename_i lo H3 t b hn3 hk3 ho3 hfr
  have bt := bu.le (hfr.absle d1)
  have b1 := hfr.1
  have bb := bd.le (show b.natAbs ≤ d.natAbs by have := hfr.le d1; omega)
  have l1 : (Str.ofString (toString t)).length ≤ 601 := by rw [Tx.str_int, SX.S_len]; exact iL_len (bt.mono (by decide))
  have l2 : (Str.ofString (toString b)).length ≤ 601 := by rw [Tx.str_int, SX.S_len]; exact iL_len (bb.mono (by decide))
  have tx : Str.ofString (toString t) ++ Str.ofString "/" ++ Str.ofString (toString b) = SX.S (Tx.shL t b) := text_S2 t b
  have bt1 : Bt 1900 t := bt.mono (by decide)
  have bb1 : Bt 1900 b := bb.mono (by decide)
  tm_at "run"
  rename_i p2 H4 hn4 hk4 hp4 z H5 hz hk5 hp5 one H6 t1 b2 hn6 hk6 hs6 hf6 p3 H7 hn7 hk7 hp7 r H8 r0 r1 hk8 hp8
  obtain ⟨e1, e2⟩ := (Fr.Fr.eq_iff hf6 hfr d1 d1).mpr rfl
  rw [e1, e2] at hs6
  have n1 : one ≠ p3 := by
    obtain ⟨dx, e⟩ := id hs6
    exact ne_of_none e hn7
  have hs8 : ShAt CShare H8 one t b := (hs6.kp0 hk7).kp1 hk8 n1
  have ho8 : H8 lo = some (.tup [.int t, .int b]) := by tm_at "lk"
  obtain ⟨l, rfl⟩ : ∃ l, z = SX.S l := ⟨z.cps.toList, (SX.S_tl z).symm⟩
  rw [SX.S_len] at hz
  have hlz : l.length ≤ 90000 := by omega
  rw [tx]
  clear hk1 hk2 hk3 hk4 hk5 hk6 hk7 hk8 hp hp2 hp4 hp5 hp7 hs6 ho3 hs2 hn hn3 hn4 hn6 hn7
  refine l_range (fun i σ H' => ∃ (pr q2 : Addr) (v w : Option V), σ = [some (.ref a), some (.int u), some (.int d), some (.ref lo), some (.str (SX.S (Tx.shL t b))), some (.str (SX.S l)), some (.ref one), some (.ref pr), some (.ref q2), v, w] ∧ ShAt CShare H' pr (t ^ (i + 1)) (b ^ (i + 1)) ∧ H' q2 = some (.tup [.int (t ^ (i + 1)), .int (b ^ (i + 1))]) ∧ Kp [] H8 H') ?_ ?_ ?_
  · exact ⟨one, lo, none, none, rfl, by rw [pow_one', pow_one']; exact hs8, by rw [pow_one', pow_one']; exact ho8, .refl⟩
  · rintro i σ H9 hi ⟨pr, q2, v, w, rfl, s9, o9, k9⟩
    have hi : i < 6 := by omega
    have hp := hfr.pow (i + 1)
    have c1 : Bt 1300 (t ^ (i + 1)) := (bt_pow bt i).mono (by omega)
    have c2 : Bt 1300 (b ^ (i + 1)) := (bt_pow bb i).mono (by omega)
    have y1 := hp.1
    have s9o : ShAt CShare H9 one t b := hs8.kp0 k9
    have o9l := k9.get0 ho8
    tm_at "run"
    rename_i r2 H10 x y hn10 hk10 hs10 hf10 hy hbx hby q3 H11 hn11 hk11 ho11
    obtain ⟨ex, ey⟩ := hfr.pow_step (i + 1) hf10
    exact ⟨r2, q3, _, _, rfl, by rw [← ex, ← ey]; exact hs10.kp0 hk11, by rw [Int.pow_succ t (i + 1), Int.pow_succ b (i + 1)]; exact ho11, k9.trans (hk10.trans hk11)⟩
  · rintro σ H9 ⟨pr, q2, v, w, rfl, s9, o9, k9⟩
    have hi : r.toNat < 6 := by omega
    have hp := hfr.pow (r.toNat + 1)
    have c1 : Bt 1900 (t ^ (r.toNat + 1)) := (bt_pow bt r.toNat).mono (by omega)
    have c2 : Bt 1900 (b ^ (r.toNat + 1)) := (bt_pow bb r.toNat).mono (by omega)
    obtain ⟨X, hX⟩ : ∃ X, X = t ^ (r.toNat + 1) := ⟨_, rfl⟩
    obtain ⟨Y, hY⟩ : ∃ Y, Y = b ^ (r.toNat + 1) := ⟨_, rfl⟩
    rw [← hX, ← hY] at s9 o9 hp
    rw [← hX] at c1
    rw [← hY] at c2
    have l3 : (Str.ofString (toString X)).length ≤ 601 := by rw [Tx.str_int, SX.S_len]; exact iL_len c1
    have l4 : (Str.ofString (toString Y)).length ≤ 601 := by rw [Tx.str_int, SX.S_len]; exact iL_len c2
    have tx2 : Str.ofString (toString X) ++ Str.ofString "/" ++ Str.ofString (toString Y) = SX.S (Tx.shL X Y) := text_S2 X Y
    have s9o : ShAt CShare H9 one t b := hs8.kp0 k9
    have o9l := k9.get0 ho8
    have lx : ∀ x y : Int, Bt 1900 x → Bt 1900 y → (Tx.shL x y).length ≤ 90000 := fun x y h1 h2 => by
      have := iL_len h1
      have := iL_len h2
      unfold Tx.shL
      rw [List.length_append, List.length_cons]
      omega
    have lt := lx t b bt1 bb1
    have lX := lx X Y c1 c2
    tm_at "run"
    · refine ⟨Tx.shL X Y, by show [V.str _] = _; rw [tx2], lX, fun H10 k10 => ?_⟩
      have gd : Tx.Good (Tx.shL t b) t b := by
        have a1 := hf.u0
        have a2 := hf.u1
        have a3 := hf.d2
        have a4 := hfr.absle d1
        have a5 := hfr.le d1
        refine ⟨rfl, b1, hfr.2.1, TL.numL_len (by decide) ?_, TL.numL_len (by decide) ?_⟩
        · have e : (10 : Nat) ^ 60 = 1000000000000000000000000000000000000000000000000000000000000 := by decide +kernel
          rw [e]; omega
        · have e : (10 : Nat) ^ 60 = 1000000000000000000000000000000000000000000000000000000000000 := by decide +kernel
          rw [e]; omega
      have s10 := s9o
      tm_at "run"
      refine meth_sh (by tm_at "sh") (by decide +kernel) (by decide +kernel) ?_
      tm_at "run"
      refine ⟨Tx.shL t b, rfl, lt, fun t' b' g p H' kk s => ?_, fun n => absurd ⟨t, b, gd⟩ n⟩
      obtain ⟨e1, e2⟩ := g.uniq gd
      rw [e1, e2] at s
      tm_at "run"
      rw [decide_eq_true rfl]
      exact k _
    · rename_i hc
      exact absurd tx2.symm hc
    · rename_i hc
      exact absurd rfl hc

end
end My
set_option Elab.async false
set_option linter.all false
set_option autoImplicit false
set_option maxRecDepth 100000
set_option maxHeartbeats 4000000
namespace My
open PySem PySem.Spec PyProof.Rows L2 U
theorem mk_all {P : Program} {w : World} {K : PySem.W.Frag} {h : Heap} {mg : Str → Option Value} {fa : Addr} (X : K.In h) (G : h.Ns mainGlobals mg) (hfa : mg "law" = some (.ref fa))
    {CShare : Addr} {COddsError : Addr} {CBadShare : Addr} {CBadText : Addr} {CBadBook : Addr} {CBadMove : Addr} {CBadProgram : Addr} {CBadPlan : Addr} {CUnfit : Addr} {CTooLarge : Addr} {CBadEdit : Addr} {f_l_int : Addr} {od_l_int an_l_int : Option Addr} {sl_l_int : Array (Option Value)} {oc_l_int kV_l_int dc_l_int pm_l_int cd_l_int ct_l_int : Value} {f_l_pool : Addr} {od_l_pool an_l_pool : Option Addr} {sl_l_pool : Array (Option Value)} {oc_l_pool kV_l_pool dc_l_pool pm_l_pool cd_l_pool ct_l_pool : Value} {f_l_stirred : Addr} {od_l_stirred an_l_stirred : Option Addr} {sl_l_stirred : Array (Option Value)} {oc_l_stirred kV_l_stirred dc_l_stirred pm_l_stirred cd_l_stirred ct_l_stirred : Value} {f_l_draw : Addr} {od_l_draw an_l_draw : Option Addr} {sl_l_draw : Array (Option Value)} {oc_l_draw kV_l_draw dc_l_draw pm_l_draw cd_l_draw ct_l_draw : Value} {f_l_size : Addr} {od_l_size an_l_size : Option Addr} {sl_l_size : Array (Option Value)} {oc_l_size kV_l_size dc_l_size pm_l_size cd_l_size ct_l_size : Value} {f_l_fraction : Addr} {od_l_fraction an_l_fraction : Option Addr} {sl_l_fraction : Array (Option Value)} {oc_l_fraction kV_l_fraction dc_l_fraction pm_l_fraction cd_l_fraction ct_l_fraction : Value} {f_law : Addr} {od_law an_law : Option Addr} {sl_law : Array (Option Value)} {oc_law kV_law dc_law pm_law cd_law ct_law : Value} {f_is_unsigned : Addr} {od_is_unsigned an_is_unsigned : Option Addr} {sl_is_unsigned : Array (Option Value)} {oc_is_unsigned kV_is_unsigned dc_is_unsigned pm_is_unsigned cd_is_unsigned ct_is_unsigned : Value} {f_l_low : Addr} {od_l_low an_l_low : Option Addr} {sl_l_low : Array (Option Value)} {oc_l_low kV_l_low dc_l_low pm_l_low cd_l_low ct_l_low : Value} {f_l_sign : Addr} {od_l_sign an_l_sign : Option Addr} {sl_l_sign : Array (Option Value)} {oc_l_sign kV_l_sign dc_l_sign pm_l_sign cd_l_sign ct_l_sign : Value} {f_l_changed : Addr} {od_l_changed an_l_changed : Option Addr} {sl_l_changed : Array (Option Value)} {oc_l_changed kV_l_changed dc_l_changed pm_l_changed cd_l_changed ct_l_changed : Value} {f_l_odd_text : Addr} {od_l_odd_text an_l_odd_text : Option Addr} {sl_l_odd_text : Array (Option Value)} {oc_l_odd_text kV_l_odd_text dc_l_odd_text pm_l_odd_text cd_l_odd_text ct_l_odd_text : Value} {f_l_long_text : Addr} {od_l_long_text an_l_long_text : Option Addr} {sl_l_long_text : Array (Option Value)} {oc_l_long_text kV_l_long_text dc_l_long_text pm_l_long_text cd_l_long_text ct_l_long_text : Value} {f_l_second_text : Addr} {od_l_second_text an_l_second_text : Option Addr} {sl_l_second_text : Array (Option Value)} {oc_l_second_text kV_l_second_text dc_l_second_text pm_l_second_text cd_l_second_text ct_l_second_text : Value} {f_l_digits : Addr} {od_l_digits an_l_digits : Option Addr} {sl_l_digits : Array (Option Value)} {oc_l_digits kV_l_digits dc_l_digits pm_l_digits cd_l_digits ct_l_digits : Value} {f_l_read : Addr} {od_l_read an_l_read : Option Addr} {sl_l_read : Array (Option Value)} {oc_l_read kV_l_read dc_l_read pm_l_read cd_l_read ct_l_read : Value} {f_l_fields : Addr} {od_l_fields an_l_fields : Option Addr} {sl_l_fields : Array (Option Value)} {oc_l_fields kV_l_fields dc_l_fields pm_l_fields cd_l_fields ct_l_fields : Value} {f_l_refused : Addr} {od_l_refused an_l_refused : Option Addr} {sl_l_refused : Array (Option Value)} {oc_l_refused kV_l_refused dc_l_refused pm_l_refused cd_l_refused ct_l_refused : Value} {f_l_text_holds : Addr} {od_l_text_holds an_l_text_holds : Option Addr} {sl_l_text_holds : Array (Option Value)} {oc_l_text_holds kV_l_text_holds dc_l_text_holds pm_l_text_holds cd_l_text_holds ct_l_text_holds : Value} {f_Share___mul__ : Addr} {od_Share___mul__ an_Share___mul__ : Option Addr} {sl_Share___mul__ : Array (Option Value)} {oc_Share___mul__ kV_Share___mul__ dc_Share___mul__ pm_Share___mul__ cd_Share___mul__ ct_Share___mul__ : Value} {f_Share___str__ : Addr} {od_Share___str__ an_Share___str__ : Option Addr} {sl_Share___str__ : Array (Option Value)} {oc_Share___str__ kV_Share___str__ dc_Share___str__ pm_Share___str__ cd_Share___str__ ct_Share___str__ : Value} {Tp : Addr} {dT : Option Addr} {tkT : Tok} {nT : Nat} {slT : Array (Option Value)} {f_init : Addr} {od_init an_init : Option Addr} {sl_init : Array (Option Value)} {oc_init kV_init dc_init pm_init cd_init ct_init : Value} {tk_MOST_DIGITS : Tok} {p_Share_parse f_Share_parse : Addr} {od_Share_parse an_Share_parse : Option Addr} {sl_Share_parse : Array (Option Value)} {oc_Share_parse kV_Share_parse dc_Share_parse pm_Share_parse cd_Share_parse ct_Share_parse : Value} {rs_Share_parse : List Value}
        (gCShare : PySem.W.nsIn K mainGlobals "Share" = some (some (.ref CShare)))
    (gCOddsError : PySem.W.nsIn K mainGlobals "OddsError" = some (some (.ref COddsError)))
    (gCBadShare : PySem.W.nsIn K mainGlobals "BadShare" = some (some (.ref CBadShare)))
    (gCBadText : PySem.W.nsIn K mainGlobals "BadText" = some (some (.ref CBadText)))
    (gCBadBook : PySem.W.nsIn K mainGlobals "BadBook" = some (some (.ref CBadBook)))
    (gCBadMove : PySem.W.nsIn K mainGlobals "BadMove" = some (some (.ref CBadMove)))
    (gCBadProgram : PySem.W.nsIn K mainGlobals "BadProgram" = some (some (.ref CBadProgram)))
    (gCBadPlan : PySem.W.nsIn K mainGlobals "BadPlan" = some (some (.ref CBadPlan)))
    (gCUnfit : PySem.W.nsIn K mainGlobals "Unfit" = some (some (.ref CUnfit)))
    (gCTooLarge : PySem.W.nsIn K mainGlobals "TooLarge" = some (some (.ref CTooLarge)))
    (gCBadEdit : PySem.W.nsIn K mainGlobals "BadEdit" = some (some (.ref CBadEdit)))
    (hn0 : PySem.W.specialIn K (.builtin "object.__class__") "__get__" = some (some (.builtin "getset_descriptor.__get__")))
    (ht0 : PySem.W.takesIn K (.builtin "object.__class__") = some true)
    (a_l_int : PySem.W.nsIn K mainGlobals "_law_int" = some (some (.ref f_l_int)))
    (l_l_int : K.lookup f_l_int = some ⟨oc_l_int, od_l_int, .func (PySem.W.fnOf "_law_int" "_law_int" (defArgs s_l_int) (defBody s_l_int) (defScope s_l_int) .none kV_l_int dc_l_int pm_l_int an_l_int cd_l_int ct_l_int), sl_l_int⟩)
    (c_l_int : PySem.W.codeIn K cd_l_int "_law_int" = true)
    (k_l_int : PySem.W.keepIn K (.ref f_l_int) = true)
    (a_l_pool : PySem.W.nsIn K mainGlobals "_law_pool" = some (some (.ref f_l_pool)))
    (l_l_pool : K.lookup f_l_pool = some ⟨oc_l_pool, od_l_pool, .func (PySem.W.fnOf "_law_pool" "_law_pool" (defArgs s_l_pool) (defBody s_l_pool) (defScope s_l_pool) .none kV_l_pool dc_l_pool pm_l_pool an_l_pool cd_l_pool ct_l_pool), sl_l_pool⟩)
    (c_l_pool : PySem.W.codeIn K cd_l_pool "_law_pool" = true)
    (k_l_pool : PySem.W.keepIn K (.ref f_l_pool) = true)
    (a_l_stirred : PySem.W.nsIn K mainGlobals "_law_stirred" = some (some (.ref f_l_stirred)))
    (l_l_stirred : K.lookup f_l_stirred = some ⟨oc_l_stirred, od_l_stirred, .func (PySem.W.fnOf "_law_stirred" "_law_stirred" (defArgs s_l_stirred) (defBody s_l_stirred) (defScope s_l_stirred) .none kV_l_stirred dc_l_stirred pm_l_stirred an_l_stirred cd_l_stirred ct_l_stirred), sl_l_stirred⟩)
    (c_l_stirred : PySem.W.codeIn K cd_l_stirred "_law_stirred" = true)
    (k_l_stirred : PySem.W.keepIn K (.ref f_l_stirred) = true)
    (a_l_draw : PySem.W.nsIn K mainGlobals "_law_draw" = some (some (.ref f_l_draw)))
    (l_l_draw : K.lookup f_l_draw = some ⟨oc_l_draw, od_l_draw, .func (PySem.W.fnOf "_law_draw" "_law_draw" (defArgs s_l_draw) (defBody s_l_draw) (defScope s_l_draw) .none kV_l_draw dc_l_draw pm_l_draw an_l_draw cd_l_draw ct_l_draw), sl_l_draw⟩)
    (c_l_draw : PySem.W.codeIn K cd_l_draw "_law_draw" = true)
    (k_l_draw : PySem.W.keepIn K (.ref f_l_draw) = true)
    (a_l_size : PySem.W.nsIn K mainGlobals "_law_size" = some (some (.ref f_l_size)))
    (l_l_size : K.lookup f_l_size = some ⟨oc_l_size, od_l_size, .func (PySem.W.fnOf "_law_size" "_law_size" (defArgs s_l_size) (defBody s_l_size) (defScope s_l_size) .none kV_l_size dc_l_size pm_l_size an_l_size cd_l_size ct_l_size), sl_l_size⟩)
    (c_l_size : PySem.W.codeIn K cd_l_size "_law_size" = true)
    (k_l_size : PySem.W.keepIn K (.ref f_l_size) = true)
    (a_l_fraction : PySem.W.nsIn K mainGlobals "_law_fraction" = some (some (.ref f_l_fraction)))
    (l_l_fraction : K.lookup f_l_fraction = some ⟨oc_l_fraction, od_l_fraction, .func (PySem.W.fnOf "_law_fraction" "_law_fraction" (defArgs s_l_fraction) (defBody s_l_fraction) (defScope s_l_fraction) .none kV_l_fraction dc_l_fraction pm_l_fraction an_l_fraction cd_l_fraction ct_l_fraction), sl_l_fraction⟩)
    (c_l_fraction : PySem.W.codeIn K cd_l_fraction "_law_fraction" = true)
    (k_l_fraction : PySem.W.keepIn K (.ref f_l_fraction) = true)
    (a_law : PySem.W.nsIn K mainGlobals "law" = some (some (.ref f_law)))
    (l_law : K.lookup f_law = some ⟨oc_law, od_law, .func (PySem.W.fnOf "law" "law" (defArgs s_law) (defBody s_law) (defScope s_law) .none kV_law dc_law pm_law an_law cd_law ct_law), sl_law⟩)
    (c_law : PySem.W.codeIn K cd_law "law" = true)
    (k_law : PySem.W.keepIn K (.ref f_law) = true)
    (a_is_unsigned : PySem.W.nsIn K mainGlobals "is_unsigned" = some (some (.ref f_is_unsigned)))
    (l_is_unsigned : K.lookup f_is_unsigned = some ⟨oc_is_unsigned, od_is_unsigned, .func (PySem.W.fnOf "is_unsigned" "is_unsigned" (defArgs s_is_unsigned) (defBody s_is_unsigned) (defScope s_is_unsigned) .none kV_is_unsigned dc_is_unsigned pm_is_unsigned an_is_unsigned cd_is_unsigned ct_is_unsigned), sl_is_unsigned⟩)
    (c_is_unsigned : PySem.W.codeIn K cd_is_unsigned "is_unsigned" = true)
    (k_is_unsigned : PySem.W.keepIn K (.ref f_is_unsigned) = true)
    (a_l_low : PySem.W.nsIn K mainGlobals "_law_low" = some (some (.ref f_l_low)))
    (l_l_low : K.lookup f_l_low = some ⟨oc_l_low, od_l_low, .func (PySem.W.fnOf "_law_low" "_law_low" (defArgs s_l_low) (defBody s_l_low) (defScope s_l_low) .none kV_l_low dc_l_low pm_l_low an_l_low cd_l_low ct_l_low), sl_l_low⟩)
    (c_l_low : PySem.W.codeIn K cd_l_low "_law_low" = true)
    (k_l_low : PySem.W.keepIn K (.ref f_l_low) = true)
    (a_l_sign : PySem.W.nsIn K mainGlobals "_law_sign" = some (some (.ref f_l_sign)))
    (l_l_sign : K.lookup f_l_sign = some ⟨oc_l_sign, od_l_sign, .func (PySem.W.fnOf "_law_sign" "_law_sign" (defArgs s_l_sign) (defBody s_l_sign) (defScope s_l_sign) .none kV_l_sign dc_l_sign pm_l_sign an_l_sign cd_l_sign ct_l_sign), sl_l_sign⟩)
    (c_l_sign : PySem.W.codeIn K cd_l_sign "_law_sign" = true)
    (k_l_sign : PySem.W.keepIn K (.ref f_l_sign) = true)
    (a_l_changed : PySem.W.nsIn K mainGlobals "_law_changed" = some (some (.ref f_l_changed)))
    (l_l_changed : K.lookup f_l_changed = some ⟨oc_l_changed, od_l_changed, .func (PySem.W.fnOf "_law_changed" "_law_changed" (defArgs s_l_changed) (defBody s_l_changed) (defScope s_l_changed) .none kV_l_changed dc_l_changed pm_l_changed an_l_changed cd_l_changed ct_l_changed), sl_l_changed⟩)
    (c_l_changed : PySem.W.codeIn K cd_l_changed "_law_changed" = true)
    (k_l_changed : PySem.W.keepIn K (.ref f_l_changed) = true)
    (a_l_odd_text : PySem.W.nsIn K mainGlobals "_law_odd_text" = some (some (.ref f_l_odd_text)))
    (l_l_odd_text : K.lookup f_l_odd_text = some ⟨oc_l_odd_text, od_l_odd_text, .func (PySem.W.fnOf "_law_odd_text" "_law_odd_text" (defArgs s_l_odd_text) (defBody s_l_odd_text) (defScope s_l_odd_text) .none kV_l_odd_text dc_l_odd_text pm_l_odd_text an_l_odd_text cd_l_odd_text ct_l_odd_text), sl_l_odd_text⟩)
    (c_l_odd_text : PySem.W.codeIn K cd_l_odd_text "_law_odd_text" = true)
    (k_l_odd_text : PySem.W.keepIn K (.ref f_l_odd_text) = true)
    (a_l_long_text : PySem.W.nsIn K mainGlobals "_law_long_text" = some (some (.ref f_l_long_text)))
    (l_l_long_text : K.lookup f_l_long_text = some ⟨oc_l_long_text, od_l_long_text, .func (PySem.W.fnOf "_law_long_text" "_law_long_text" (defArgs s_l_long_text) (defBody s_l_long_text) (defScope s_l_long_text) .none kV_l_long_text dc_l_long_text pm_l_long_text an_l_long_text cd_l_long_text ct_l_long_text), sl_l_long_text⟩)
    (c_l_long_text : PySem.W.codeIn K cd_l_long_text "_law_long_text" = true)
    (k_l_long_text : PySem.W.keepIn K (.ref f_l_long_text) = true)
    (a_l_second_text : PySem.W.nsIn K mainGlobals "_law_second_text" = some (some (.ref f_l_second_text)))
    (l_l_second_text : K.lookup f_l_second_text = some ⟨oc_l_second_text, od_l_second_text, .func (PySem.W.fnOf "_law_second_text" "_law_second_text" (defArgs s_l_second_text) (defBody s_l_second_text) (defScope s_l_second_text) .none kV_l_second_text dc_l_second_text pm_l_second_text an_l_second_text cd_l_second_text ct_l_second_text), sl_l_second_text⟩)
    (c_l_second_text : PySem.W.codeIn K cd_l_second_text "_law_second_text" = true)
    (k_l_second_text : PySem.W.keepIn K (.ref f_l_second_text) = true)
    (a_l_digits : PySem.W.nsIn K mainGlobals "_law_digits" = some (some (.ref f_l_digits)))
    (l_l_digits : K.lookup f_l_digits = some ⟨oc_l_digits, od_l_digits, .func (PySem.W.fnOf "_law_digits" "_law_digits" (defArgs s_l_digits) (defBody s_l_digits) (defScope s_l_digits) .none kV_l_digits dc_l_digits pm_l_digits an_l_digits cd_l_digits ct_l_digits), sl_l_digits⟩)
    (c_l_digits : PySem.W.codeIn K cd_l_digits "_law_digits" = true)
    (k_l_digits : PySem.W.keepIn K (.ref f_l_digits) = true)
    (a_l_read : PySem.W.nsIn K mainGlobals "_law_read" = some (some (.ref f_l_read)))
    (l_l_read : K.lookup f_l_read = some ⟨oc_l_read, od_l_read, .func (PySem.W.fnOf "_law_read" "_law_read" (defArgs s_l_read) (defBody s_l_read) (defScope s_l_read) .none kV_l_read dc_l_read pm_l_read an_l_read cd_l_read ct_l_read), sl_l_read⟩)
    (c_l_read : PySem.W.codeIn K cd_l_read "_law_read" = true)
    (k_l_read : PySem.W.keepIn K (.ref f_l_read) = true)
    (a_l_fields : PySem.W.nsIn K mainGlobals "_law_fields" = some (some (.ref f_l_fields)))
    (l_l_fields : K.lookup f_l_fields = some ⟨oc_l_fields, od_l_fields, .func (PySem.W.fnOf "_law_fields" "_law_fields" (defArgs s_l_fields) (defBody s_l_fields) (defScope s_l_fields) .none kV_l_fields dc_l_fields pm_l_fields an_l_fields cd_l_fields ct_l_fields), sl_l_fields⟩)
    (c_l_fields : PySem.W.codeIn K cd_l_fields "_law_fields" = true)
    (k_l_fields : PySem.W.keepIn K (.ref f_l_fields) = true)
    (a_l_refused : PySem.W.nsIn K mainGlobals "_law_refused" = some (some (.ref f_l_refused)))
    (l_l_refused : K.lookup f_l_refused = some ⟨oc_l_refused, od_l_refused, .func (PySem.W.fnOf "_law_refused" "_law_refused" (defArgs s_l_refused) (defBody s_l_refused) (defScope s_l_refused) .none kV_l_refused dc_l_refused pm_l_refused an_l_refused cd_l_refused ct_l_refused), sl_l_refused⟩)
    (c_l_refused : PySem.W.codeIn K cd_l_refused "_law_refused" = true)
    (k_l_refused : PySem.W.keepIn K (.ref f_l_refused) = true)
    (a_l_text_holds : PySem.W.nsIn K mainGlobals "_law_text_holds" = some (some (.ref f_l_text_holds)))
    (l_l_text_holds : K.lookup f_l_text_holds = some ⟨oc_l_text_holds, od_l_text_holds, .func (PySem.W.fnOf "_law_text_holds" "_law_text_holds" (defArgs s_l_text_holds) (defBody s_l_text_holds) (defScope s_l_text_holds) .none kV_l_text_holds dc_l_text_holds pm_l_text_holds an_l_text_holds cd_l_text_holds ct_l_text_holds), sl_l_text_holds⟩)
    (c_l_text_holds : PySem.W.codeIn K cd_l_text_holds "_law_text_holds" = true)
    (k_l_text_holds : PySem.W.keepIn K (.ref f_l_text_holds) = true)
    (z_isinstance : PySem.W.nsIn K mainGlobals "isinstance" = some none)
    (z_int : PySem.W.nsIn K mainGlobals "int" = some none)
    (z_bool : PySem.W.nsIn K mainGlobals "bool" = some none)
    (z_len : PySem.W.nsIn K mainGlobals "len" = some none)
    (z_abs : PySem.W.nsIn K mainGlobals "abs" = some none)
    (z_max : PySem.W.nsIn K mainGlobals "max" = some none)
    (z_range : PySem.W.nsIn K mainGlobals "range" = some none)
    (z_ValueError : PySem.W.nsIn K mainGlobals "ValueError" = some none)
    (z_str : PySem.W.nsIn K mainGlobals "str" = some none)
    (a_Share___mul__ : PySem.W.findIn K (.ref CShare) "__mul__" = some (some (.ref f_Share___mul__)))
    (i_Share___mul__ : PySem.W.isFn K (.ref f_Share___mul__) = true)
    (l_Share___mul__ : K.lookup f_Share___mul__ = some ⟨oc_Share___mul__, od_Share___mul__, .func (PySem.W.fnOf "__mul__" "Share.__mul__" (defArgs s_Share___mul__) (defBody s_Share___mul__) (defScope s_Share___mul__) .none kV_Share___mul__ dc_Share___mul__ pm_Share___mul__ an_Share___mul__ cd_Share___mul__ ct_Share___mul__), sl_Share___mul__⟩)
    (c_Share___mul__ : PySem.W.codeIn K cd_Share___mul__ "Share.__mul__" = true)
    (k_Share___mul__ : PySem.W.keepIn K (.ref f_Share___mul__) = true)
    (a_Share___str__ : PySem.W.findIn K (.ref CShare) "__str__" = some (some (.ref f_Share___str__)))
    (i_Share___str__ : PySem.W.isFn K (.ref f_Share___str__) = true)
    (l_Share___str__ : K.lookup f_Share___str__ = some ⟨oc_Share___str__, od_Share___str__, .func (PySem.W.fnOf "__str__" "Share.__str__" (defArgs s_Share___str__) (defBody s_Share___str__) (defScope s_Share___str__) .none kV_Share___str__ dc_Share___str__ pm_Share___str__ an_Share___str__ cd_Share___str__ ct_Share___str__), sl_Share___str__⟩)
    (c_Share___str__ : PySem.W.codeIn K cd_Share___str__ "Share.__str__" = true)
    (k_Share___str__ : PySem.W.keepIn K (.ref f_Share___str__) = true)
    (kCOddsError : PySem.W.keepIn K (.ref COddsError) = true)
    (bCOddsError : PySem.W.subIn K (.ref COddsError) (.type "BaseException") = some true)
    (tCOddsError : PySem.W.typeIn K (.ref COddsError) = some (.type "type"))
    (gaCOddsError : PySem.W.findIn K (.ref COddsError) "__getattribute__" = some (some (.builtin "BaseException.__getattribute__")))
    (gbCOddsError : PySem.W.findIn K (.ref COddsError) "__getattr__" = some none)
    (hdCOddsError : PySem.W.hasDictIn K COddsError = true)
    (clCOddsError : PySem.W.findIn K (.ref COddsError) "__class__" = some (some (.builtin "object.__class__")))
    (mrCOddsError : PySem.W.mroIn K COddsError (.type "object") = some true)
    (kCBadShare : PySem.W.keepIn K (.ref CBadShare) = true)
    (bCBadShare : PySem.W.subIn K (.ref CBadShare) (.type "BaseException") = some true)
    (tCBadShare : PySem.W.typeIn K (.ref CBadShare) = some (.type "type"))
    (gaCBadShare : PySem.W.findIn K (.ref CBadShare) "__getattribute__" = some (some (.builtin "BaseException.__getattribute__")))
    (gbCBadShare : PySem.W.findIn K (.ref CBadShare) "__getattr__" = some none)
    (hdCBadShare : PySem.W.hasDictIn K CBadShare = true)
    (clCBadShare : PySem.W.findIn K (.ref CBadShare) "__class__" = some (some (.builtin "object.__class__")))
    (mrCBadShare : PySem.W.mroIn K CBadShare (.type "object") = some true)
    (kCBadText : PySem.W.keepIn K (.ref CBadText) = true)
    (bCBadText : PySem.W.subIn K (.ref CBadText) (.type "BaseException") = some true)
    (tCBadText : PySem.W.typeIn K (.ref CBadText) = some (.type "type"))
    (gaCBadText : PySem.W.findIn K (.ref CBadText) "__getattribute__" = some (some (.builtin "BaseException.__getattribute__")))
    (gbCBadText : PySem.W.findIn K (.ref CBadText) "__getattr__" = some none)
    (hdCBadText : PySem.W.hasDictIn K CBadText = true)
    (clCBadText : PySem.W.findIn K (.ref CBadText) "__class__" = some (some (.builtin "object.__class__")))
    (mrCBadText : PySem.W.mroIn K CBadText (.type "object") = some true)
    (kCBadBook : PySem.W.keepIn K (.ref CBadBook) = true)
    (bCBadBook : PySem.W.subIn K (.ref CBadBook) (.type "BaseException") = some true)
    (tCBadBook : PySem.W.typeIn K (.ref CBadBook) = some (.type "type"))
    (gaCBadBook : PySem.W.findIn K (.ref CBadBook) "__getattribute__" = some (some (.builtin "BaseException.__getattribute__")))
    (gbCBadBook : PySem.W.findIn K (.ref CBadBook) "__getattr__" = some none)
    (hdCBadBook : PySem.W.hasDictIn K CBadBook = true)
    (clCBadBook : PySem.W.findIn K (.ref CBadBook) "__class__" = some (some (.builtin "object.__class__")))
    (mrCBadBook : PySem.W.mroIn K CBadBook (.type "object") = some true)
    (kCBadMove : PySem.W.keepIn K (.ref CBadMove) = true)
    (bCBadMove : PySem.W.subIn K (.ref CBadMove) (.type "BaseException") = some true)
    (tCBadMove : PySem.W.typeIn K (.ref CBadMove) = some (.type "type"))
    (gaCBadMove : PySem.W.findIn K (.ref CBadMove) "__getattribute__" = some (some (.builtin "BaseException.__getattribute__")))
    (gbCBadMove : PySem.W.findIn K (.ref CBadMove) "__getattr__" = some none)
    (hdCBadMove : PySem.W.hasDictIn K CBadMove = true)
    (clCBadMove : PySem.W.findIn K (.ref CBadMove) "__class__" = some (some (.builtin "object.__class__")))
    (mrCBadMove : PySem.W.mroIn K CBadMove (.type "object") = some true)
    (kCBadProgram : PySem.W.keepIn K (.ref CBadProgram) = true)
    (bCBadProgram : PySem.W.subIn K (.ref CBadProgram) (.type "BaseException") = some true)
    (tCBadProgram : PySem.W.typeIn K (.ref CBadProgram) = some (.type "type"))
    (gaCBadProgram : PySem.W.findIn K (.ref CBadProgram) "__getattribute__" = some (some (.builtin "BaseException.__getattribute__")))
    (gbCBadProgram : PySem.W.findIn K (.ref CBadProgram) "__getattr__" = some none)
    (hdCBadProgram : PySem.W.hasDictIn K CBadProgram = true)
    (clCBadProgram : PySem.W.findIn K (.ref CBadProgram) "__class__" = some (some (.builtin "object.__class__")))
    (mrCBadProgram : PySem.W.mroIn K CBadProgram (.type "object") = some true)
    (kCBadPlan : PySem.W.keepIn K (.ref CBadPlan) = true)
    (bCBadPlan : PySem.W.subIn K (.ref CBadPlan) (.type "BaseException") = some true)
    (tCBadPlan : PySem.W.typeIn K (.ref CBadPlan) = some (.type "type"))
    (gaCBadPlan : PySem.W.findIn K (.ref CBadPlan) "__getattribute__" = some (some (.builtin "BaseException.__getattribute__")))
    (gbCBadPlan : PySem.W.findIn K (.ref CBadPlan) "__getattr__" = some none)
    (hdCBadPlan : PySem.W.hasDictIn K CBadPlan = true)
    (clCBadPlan : PySem.W.findIn K (.ref CBadPlan) "__class__" = some (some (.builtin "object.__class__")))
    (mrCBadPlan : PySem.W.mroIn K CBadPlan (.type "object") = some true)
    (kCUnfit : PySem.W.keepIn K (.ref CUnfit) = true)
    (bCUnfit : PySem.W.subIn K (.ref CUnfit) (.type "BaseException") = some true)
    (tCUnfit : PySem.W.typeIn K (.ref CUnfit) = some (.type "type"))
    (gaCUnfit : PySem.W.findIn K (.ref CUnfit) "__getattribute__" = some (some (.builtin "BaseException.__getattribute__")))
    (gbCUnfit : PySem.W.findIn K (.ref CUnfit) "__getattr__" = some none)
    (hdCUnfit : PySem.W.hasDictIn K CUnfit = true)
    (clCUnfit : PySem.W.findIn K (.ref CUnfit) "__class__" = some (some (.builtin "object.__class__")))
    (mrCUnfit : PySem.W.mroIn K CUnfit (.type "object") = some true)
    (kCTooLarge : PySem.W.keepIn K (.ref CTooLarge) = true)
    (bCTooLarge : PySem.W.subIn K (.ref CTooLarge) (.type "BaseException") = some true)
    (tCTooLarge : PySem.W.typeIn K (.ref CTooLarge) = some (.type "type"))
    (gaCTooLarge : PySem.W.findIn K (.ref CTooLarge) "__getattribute__" = some (some (.builtin "BaseException.__getattribute__")))
    (gbCTooLarge : PySem.W.findIn K (.ref CTooLarge) "__getattr__" = some none)
    (hdCTooLarge : PySem.W.hasDictIn K CTooLarge = true)
    (clCTooLarge : PySem.W.findIn K (.ref CTooLarge) "__class__" = some (some (.builtin "object.__class__")))
    (mrCTooLarge : PySem.W.mroIn K CTooLarge (.type "object") = some true)
    (kCBadEdit : PySem.W.keepIn K (.ref CBadEdit) = true)
    (bCBadEdit : PySem.W.subIn K (.ref CBadEdit) (.type "BaseException") = some true)
    (tCBadEdit : PySem.W.typeIn K (.ref CBadEdit) = some (.type "type"))
    (gaCBadEdit : PySem.W.findIn K (.ref CBadEdit) "__getattribute__" = some (some (.builtin "BaseException.__getattribute__")))
    (gbCBadEdit : PySem.W.findIn K (.ref CBadEdit) "__getattr__" = some none)
    (hdCBadEdit : PySem.W.hasDictIn K CBadEdit = true)
    (clCBadEdit : PySem.W.findIn K (.ref CBadEdit) "__class__" = some (some (.builtin "object.__class__")))
    (mrCBadEdit : PySem.W.mroIn K CBadEdit (.type "object") = some true)
    (ggcd : PySem.W.nsIn K mainGlobals "gcd" = some (some (.builtin "math.gcd")))
    (Spg : PySem.W.plainGet K CShare Str.empty = true)
    (Shd : PySem.W.hasDictIn K CShare = true)
    (Spo : PySem.W.plainOver K CShare = true)
    (Ssa : PySem.W.findIn K (.ref CShare) "__setattr__" = some (some (.builtin "object.__setattr__")))
    (Snt : PySem.W.findIn K (.ref CShare) "top" = some none)
    (Snb : PySem.W.findIn K (.ref CShare) "bottom" = some none)
    (Sca : PySem.W.findIn K (.ref CShare) "__class__" = some (some (.builtin "object.__class__")))
    (Shm : PySem.W.mroIn K CShare (.type "object") = some true)
    (Ssf : PySem.W.selfFirst K CShare = true)
    (Sty : PySem.W.typeIn K (.ref CShare) = some (.type "type"))
    (Smk : PySem.W.makesIn K CShare = true)
    (Skp : PySem.W.keepIn K (.ref CShare) = true)
    (Ssint : PySem.W.subIn K (.type "int") (.ref CShare) = some false)
    (Ssbool : PySem.W.subIn K (.type "bool") (.ref CShare) = some false)
    (SsNoneType : PySem.W.subIn K (.type "NoneType") (.ref CShare) = some false)
    (Ssstr : PySem.W.subIn K (.type "str") (.ref CShare) = some false)
    (Sstuple : PySem.W.subIn K (.type "tuple") (.ref CShare) = some false)
    (Sslist : PySem.W.subIn K (.type "list") (.ref CShare) = some false)
    (a_init : PySem.W.findIn K (.ref CShare) "__init__" = some (some (.ref f_init)))
    (i_init : PySem.W.isFn K (.ref f_init) = true)
    (l_init : K.lookup f_init = some ⟨oc_init, od_init, .func (PySem.W.fnOf "__init__" "Share.__init__" (defArgs s_Share___init__) (defBody s_Share___init__) (defScope s_Share___init__) (.ref Tp) kV_init dc_init pm_init an_init cd_init ct_init), sl_init⟩)
    (c_init : PySem.W.codeIn K cd_init "Share.__init__" = true)
    (k_init : PySem.W.keepIn K (.ref f_init) = true)
    (lT : K.lookup Tp = some ⟨.type "tuple", dT, .seq #[.int 1 tkT] nT, slT⟩)
    (xBS : PySem.W.excIn K CBadShare [.type "ValueError", .type "Exception", .type "BaseException", .type "object"] "ValueError.__new__" = true)
    (up : PySem.W.subIn K (.ref CBadShare) (.ref COddsError) = some true)
    (upV : PySem.W.subIn K (.ref CBadShare) (.type "ValueError") = some true)
    (noBadText : PySem.W.subIn K (.ref CBadShare) (.ref CBadText) = some false)
    (neBadText : CBadShare ≠ CBadText)
    (noBadBook : PySem.W.subIn K (.ref CBadShare) (.ref CBadBook) = some false)
    (neBadBook : CBadShare ≠ CBadBook)
    (noBadMove : PySem.W.subIn K (.ref CBadShare) (.ref CBadMove) = some false)
    (neBadMove : CBadShare ≠ CBadMove)
    (noBadProgram : PySem.W.subIn K (.ref CBadShare) (.ref CBadProgram) = some false)
    (neBadProgram : CBadShare ≠ CBadProgram)
    (noBadPlan : PySem.W.subIn K (.ref CBadShare) (.ref CBadPlan) = some false)
    (neBadPlan : CBadShare ≠ CBadPlan)
    (noUnfit : PySem.W.subIn K (.ref CBadShare) (.ref CUnfit) = some false)
    (neUnfit : CBadShare ≠ CUnfit)
    (noTooLarge : PySem.W.subIn K (.ref CBadShare) (.ref CTooLarge) = some false)
    (neTooLarge : CBadShare ≠ CTooLarge)
    (noBadEdit : PySem.W.subIn K (.ref CBadShare) (.ref CBadEdit) = some false)
    (neBadEdit : CBadShare ≠ CBadEdit)
    (g_MOST_DIGITS : PySem.W.nsIn K mainGlobals "MOST_DIGITS" = some (some (.int 60 tk_MOST_DIGITS)))
    (at_Share_parse : PySem.W.findIn K (.ref CShare) "parse" = some (some (.ref p_Share_parse)))
    (rc_Share_parse : PySem.W.recIn K p_Share_parse "staticmethod" = some (.ref f_Share_parse :: rs_Share_parse))
    (rd_Share_parse : PySem.W.readsIn K CShare (.type "type") = true)
    (ga_Share_parse : PySem.W.specialIn K (.ref CShare) "__getattribute__" = some (some (.builtin "type.__getattribute__")))
    (fc_Share_parse : PySem.W.findCls K (.ref CShare) (.type "type") "parse" = some (.get (.builtin "staticmethod.__get__") (.ref p_Share_parse) .none (.ref CShare)))
    (pg_Share_parse : PySem.W.plainGet K CShare Str.empty = true)
    (ic_Share_parse : PySem.W.isClsIn K CShare = true)
    (ty_Share_parse : PySem.W.typeIn K (.ref p_Share_parse) = some (.type "staticmethod"))
    (gt_Share_parse : PySem.W.specialIn K (.ref p_Share_parse) "__get__" = some (some (.builtin "staticmethod.__get__")))
    (tk_Share_parse : PySem.W.takesIn K (.ref p_Share_parse) = some false)
    (l_Share_parse : K.lookup f_Share_parse = some ⟨oc_Share_parse, od_Share_parse, .func (PySem.W.fnOf "parse" "Share.parse" (defArgs s_Share_parse) (defBody s_Share_parse) (defScope s_Share_parse) .none kV_Share_parse dc_Share_parse pm_Share_parse an_Share_parse cd_Share_parse ct_Share_parse), sl_Share_parse⟩)
    (c_Share_parse : PySem.W.codeIn K cd_Share_parse "Share.parse" = true)
    (k_Share_parse : PySem.W.keepIn K (.ref f_Share_parse) = true) :
    ∃ fd : FuncData, (∀ (s : Shared) (v : Value), BindsTo s fd ⟨[v], []⟩ [("script", v)]) ∧ ∀ base : Heap, K.In base → base.Ns mainGlobals mg → FnOk P w K mg base CX0 7 fa fd ["script"] (spLaw K) := by
  have e := hfa.symm.trans (PySem.W.mg_of X G a_law)
  cases e
  have T : Txt K mg CShare COddsError CBadShare CBadText CBadBook CBadMove CBadProgram CBadPlan CUnfit CTooLarge CBadEdit := {
  d_l_int := df_of X G a_l_int l_l_int c_l_int k_l_int
  d_l_pool := df_of X G a_l_pool l_l_pool c_l_pool k_l_pool
  d_l_stirred := df_of X G a_l_stirred l_l_stirred c_l_stirred k_l_stirred
  d_l_draw := df_of X G a_l_draw l_l_draw c_l_draw k_l_draw
  d_l_size := df_of X G a_l_size l_l_size c_l_size k_l_size
  d_l_fraction := df_of X G a_l_fraction l_l_fraction c_l_fraction k_l_fraction
  d_law := df_of X G a_law l_law c_law k_law
  d_is_unsigned := df_of X G a_is_unsigned l_is_unsigned c_is_unsigned k_is_unsigned
  d_l_low := df_of X G a_l_low l_l_low c_l_low k_l_low
  d_l_sign := df_of X G a_l_sign l_l_sign c_l_sign k_l_sign
  d_l_changed := df_of X G a_l_changed l_l_changed c_l_changed k_l_changed
  d_l_odd_text := df_of X G a_l_odd_text l_l_odd_text c_l_odd_text k_l_odd_text
  d_l_long_text := df_of X G a_l_long_text l_l_long_text c_l_long_text k_l_long_text
  d_l_second_text := df_of X G a_l_second_text l_l_second_text c_l_second_text k_l_second_text
  d_l_digits := df_of X G a_l_digits l_l_digits c_l_digits k_l_digits
  d_l_read := df_of X G a_l_read l_l_read c_l_read k_l_read
  d_l_fields := df_of X G a_l_fields l_l_fields c_l_fields k_l_fields
  d_l_refused := df_of X G a_l_refused l_l_refused c_l_refused k_l_refused
  d_l_text_holds := df_of X G a_l_text_holds l_l_text_holds c_l_text_holds k_l_text_holds
  n_isinstance := PySem.W.mg_none_of X G z_isinstance
  n_int := PySem.W.mg_none_of X G z_int
  n_bool := PySem.W.mg_none_of X G z_bool
  n_len := PySem.W.mg_none_of X G z_len
  n_abs := PySem.W.mg_none_of X G z_abs
  n_max := PySem.W.mg_none_of X G z_max
  n_range := PySem.W.mg_none_of X G z_range
  n_ValueError := PySem.W.mg_none_of X G z_ValueError
  n_str := PySem.W.mg_none_of X G z_str
  d_Share___mul__ := dm_of a_Share___mul__ i_Share___mul__ l_Share___mul__ c_Share___mul__ k_Share___mul__
  d_Share___str__ := dm_of a_Share___str__ i_Share___str__ l_Share___str__ c_Share___str__ k_Share___str__
  e_OddsError := ⟨PySem.W.mg_of X G gCOddsError, kCOddsError, bCOddsError, tCOddsError, ⟨gaCOddsError, gbCOddsError, bCOddsError, hdCOddsError, clCOddsError, hn0, ht0, mrCOddsError⟩⟩
  e_BadShare := ⟨PySem.W.mg_of X G gCBadShare, kCBadShare, bCBadShare, tCBadShare, ⟨gaCBadShare, gbCBadShare, bCBadShare, hdCBadShare, clCBadShare, hn0, ht0, mrCBadShare⟩⟩
  e_BadText := ⟨PySem.W.mg_of X G gCBadText, kCBadText, bCBadText, tCBadText, ⟨gaCBadText, gbCBadText, bCBadText, hdCBadText, clCBadText, hn0, ht0, mrCBadText⟩⟩
  e_BadBook := ⟨PySem.W.mg_of X G gCBadBook, kCBadBook, bCBadBook, tCBadBook, ⟨gaCBadBook, gbCBadBook, bCBadBook, hdCBadBook, clCBadBook, hn0, ht0, mrCBadBook⟩⟩
  e_BadMove := ⟨PySem.W.mg_of X G gCBadMove, kCBadMove, bCBadMove, tCBadMove, ⟨gaCBadMove, gbCBadMove, bCBadMove, hdCBadMove, clCBadMove, hn0, ht0, mrCBadMove⟩⟩
  e_BadProgram := ⟨PySem.W.mg_of X G gCBadProgram, kCBadProgram, bCBadProgram, tCBadProgram, ⟨gaCBadProgram, gbCBadProgram, bCBadProgram, hdCBadProgram, clCBadProgram, hn0, ht0, mrCBadProgram⟩⟩
  e_BadPlan := ⟨PySem.W.mg_of X G gCBadPlan, kCBadPlan, bCBadPlan, tCBadPlan, ⟨gaCBadPlan, gbCBadPlan, bCBadPlan, hdCBadPlan, clCBadPlan, hn0, ht0, mrCBadPlan⟩⟩
  e_Unfit := ⟨PySem.W.mg_of X G gCUnfit, kCUnfit, bCUnfit, tCUnfit, ⟨gaCUnfit, gbCUnfit, bCUnfit, hdCUnfit, clCUnfit, hn0, ht0, mrCUnfit⟩⟩
  e_TooLarge := ⟨PySem.W.mg_of X G gCTooLarge, kCTooLarge, bCTooLarge, tCTooLarge, ⟨gaCTooLarge, gbCTooLarge, bCTooLarge, hdCTooLarge, clCTooLarge, hn0, ht0, mrCTooLarge⟩⟩
  e_BadEdit := ⟨PySem.W.mg_of X G gCBadEdit, kCBadEdit, bCBadEdit, tCBadEdit, ⟨gaCBadEdit, gbCBadEdit, bCBadEdit, hdCBadEdit, clCBadEdit, hn0, ht0, mrCBadEdit⟩⟩
  g_gcd := PySem.W.mg_of X G ggcd
  sh := ⟨PySem.W.mg_of X G gCShare, ⟨Spg, Shd, Spo, Ssa⟩, Snt, Snb, ⟨⟨Spg, Shd, Spo, Ssa⟩, Sca, hn0, ht0, Shm, kit_self⟩, Ssf, Sty, Ssint, Ssbool, SsNoneType, Ssstr, Sstuple, Sslist⟩
  d_init := ⟨f_init, _, ⟨Smk, a_init, i_init, Skp⟩, ⟨⟨_, _, _, _, _, _, _, _, _, _, rfl, l_init, c_init, .inr ⟨by simp, Tp, _, [.int 1 tkT], nT, rfl, lT, rfl, .cons ⟨tkT, rfl⟩ .nil⟩, .inl rfl⟩, k_init⟩⟩
  x_BadShare := xBS
  up := up
  upV := upV
  no_BadText := ⟨noBadText, neBadText⟩
  no_BadBook := ⟨noBadBook, neBadBook⟩
  no_BadMove := ⟨noBadMove, neBadMove⟩
  no_BadProgram := ⟨noBadProgram, neBadProgram⟩
  no_BadPlan := ⟨noBadPlan, neBadPlan⟩
  no_Unfit := ⟨noUnfit, neUnfit⟩
  no_TooLarge := ⟨noTooLarge, neTooLarge⟩
  no_BadEdit := ⟨noBadEdit, neBadEdit⟩
  g_MOST_DIGITS := ⟨_, PySem.W.mg_of X G g_MOST_DIGITS, ⟨_, rfl⟩⟩
  d_parse := ⟨p_Share_parse, f_Share_parse, _, ⟨rd_Share_parse, ga_Share_parse, fc_Share_parse, ⟨_, rc_Share_parse⟩⟩, ⟨pg_Share_parse, ic_Share_parse, at_Share_parse, ty_Share_parse, gt_Share_parse, tk_Share_parse, by decide +kernel, ⟨_, rc_Share_parse⟩⟩, k_Share_parse, fun_mk l_Share_parse c_Share_parse k_Share_parse⟩ }
  exact ⟨_, fun s v => .of_eq rfl, fun base _ _ => ok_law T (fun_mk (st := s_law) l_law c_law k_law)⟩
theorem walk {l : PySem.W.OpenLaw} {q : Program} {loose : List Str} {XP : (Str → Option Value) → Heap → Prop} {YP : World → Heap → Prop} {d : DefRec} {K : Params → PySem.W.Frag} (hn : l.most = some 63) (hdf : d.params.defaults = [])
    (hY : ∀ (w : World) (h : Heap), YP w h → (K w.params).In h)
    (F : ∀ (w : World) (mg : Str → Option Value) (fa : Addr) (h : Heap), (K w.params).In h → h.Ns mainGlobals mg → mg d.name = some (.ref fa) →
      ∃ fd : FuncData, (∀ (s : Shared) (u : Value), BindsTo s fd ⟨[u], []⟩ [("script", u)]) ∧ ∀ base : Heap, (K w.params).In base → base.Ns mainGlobals mg → FnOk l.prog w (K w.params) mg base CX0 7 fa fd ["script"] (spLaw (K w.params))) :
    PySem.W.WalkO q loose XP YP l.row.toRowW d [] (fun f vs => PySem.call f vs) :=
  L2.walk_of (n := 63) (k := 7) (x := "script") (CX := fun _ => CX0) (sp := fun w => spLaw (K w.params)) hn (by decide) hdf ⟨rfl, by decide, by decide⟩ hY F (fun w H a ns hl hO hS => ⟨a, ns, rfl, Scr.of hO hS, fun _ => rfl⟩) fun _ _ _ _ _ z => z
end My

open PySem PySem.W PyProof.Rows in
set_option maxRecDepth 100000 in
set_option maxHeartbeats 0 in
theorem PySem.Challenge.cw_oddskept_k02_share_texts_holds : PySem.Challenge.rw_oddskept_k02_share_texts.Holds := by
  w_on; o_law; k_head; (case hw => w_witness2)
  k_fill
  refine My.walk (l := PySem.Challenge.rw_oddskept_k02_share_texts) rfl rfl (fun w h Y => PySem.W.kIn_of Y) ?F
  case F =>
    intro w mg fa h KX G hmg
    refine' My.mk_all KX G hmg ?gCShare ?gCOddsError ?gCBadShare ?gCBadText ?gCBadBook ?gCBadMove ?gCBadProgram ?gCBadPlan ?gCUnfit ?gCTooLarge ?gCBadEdit ?hn0 ?ht0 ?a_l_int ?l_l_int ?c_l_int ?k_l_int ?a_l_pool ?l_l_pool ?c_l_pool ?k_l_pool ?a_l_stirred ?l_l_stirred ?c_l_stirred ?k_l_stirred ?a_l_draw ?l_l_draw ?c_l_draw ?k_l_draw ?a_l_size ?l_l_size ?c_l_size ?k_l_size ?a_l_fraction ?l_l_fraction ?c_l_fraction ?k_l_fraction ?a_law ?l_law ?c_law ?k_law ?a_is_unsigned ?l_is_unsigned ?c_is_unsigned ?k_is_unsigned ?a_l_low ?l_l_low ?c_l_low ?k_l_low ?a_l_sign ?l_l_sign ?c_l_sign ?k_l_sign ?a_l_changed ?l_l_changed ?c_l_changed ?k_l_changed ?a_l_odd_text ?l_l_odd_text ?c_l_odd_text ?k_l_odd_text ?a_l_long_text ?l_l_long_text ?c_l_long_text ?k_l_long_text ?a_l_second_text ?l_l_second_text ?c_l_second_text ?k_l_second_text ?a_l_digits ?l_l_digits ?c_l_digits ?k_l_digits ?a_l_read ?l_l_read ?c_l_read ?k_l_read ?a_l_fields ?l_l_fields ?c_l_fields ?k_l_fields ?a_l_refused ?l_l_refused ?c_l_refused ?k_l_refused ?a_l_text_holds ?l_l_text_holds ?c_l_text_holds ?k_l_text_holds ?z_isinstance ?z_int ?z_bool ?z_len ?z_abs ?z_max ?z_range ?z_ValueError ?z_str ?a_Share___mul__ ?i_Share___mul__ ?l_Share___mul__ ?c_Share___mul__ ?k_Share___mul__ ?a_Share___str__ ?i_Share___str__ ?l_Share___str__ ?c_Share___str__ ?k_Share___str__ ?kCOddsError ?bCOddsError ?tCOddsError ?gaCOddsError ?gbCOddsError ?hdCOddsError ?clCOddsError ?mrCOddsError ?kCBadShare ?bCBadShare ?tCBadShare ?gaCBadShare ?gbCBadShare ?hdCBadShare ?clCBadShare ?mrCBadShare ?kCBadText ?bCBadText ?tCBadText ?gaCBadText ?gbCBadText ?hdCBadText ?clCBadText ?mrCBadText ?kCBadBook ?bCBadBook ?tCBadBook ?gaCBadBook ?gbCBadBook ?hdCBadBook ?clCBadBook ?mrCBadBook ?kCBadMove ?bCBadMove ?tCBadMove ?gaCBadMove ?gbCBadMove ?hdCBadMove ?clCBadMove ?mrCBadMove ?kCBadProgram ?bCBadProgram ?tCBadProgram ?gaCBadProgram ?gbCBadProgram ?hdCBadProgram ?clCBadProgram ?mrCBadProgram ?kCBadPlan ?bCBadPlan ?tCBadPlan ?gaCBadPlan ?gbCBadPlan ?hdCBadPlan ?clCBadPlan ?mrCBadPlan ?kCUnfit ?bCUnfit ?tCUnfit ?gaCUnfit ?gbCUnfit ?hdCUnfit ?clCUnfit ?mrCUnfit ?kCTooLarge ?bCTooLarge ?tCTooLarge ?gaCTooLarge ?gbCTooLarge ?hdCTooLarge ?clCTooLarge ?mrCTooLarge ?kCBadEdit ?bCBadEdit ?tCBadEdit ?gaCBadEdit ?gbCBadEdit ?hdCBadEdit ?clCBadEdit ?mrCBadEdit ?ggcd ?Spg ?Shd ?Spo ?Ssa ?Snt ?Snb ?Sca ?Shm ?Ssf ?Sty ?Smk ?Skp ?Ssint ?Ssbool ?SsNoneType ?Ssstr ?Sstuple ?Sslist ?a_init ?i_init ?l_init ?c_init ?k_init ?lT ?xBS ?up ?upV ?noBadText ?neBadText ?noBadBook ?neBadBook ?noBadMove ?neBadMove ?noBadProgram ?neBadProgram ?noBadPlan ?neBadPlan ?noUnfit ?neUnfit ?noTooLarge ?neTooLarge ?noBadEdit ?neBadEdit ?g_MOST_DIGITS ?at_Share_parse ?rc_Share_parse ?rd_Share_parse ?ga_Share_parse ?fc_Share_parse ?pg_Share_parse ?ic_Share_parse ?ty_Share_parse ?gt_Share_parse ?tk_Share_parse ?l_Share_parse ?c_Share_parse ?k_Share_parse
    (case gCShare => k_is)
    (case gCOddsError => k_is)
    (case gCBadShare => k_is)
    (case gCBadText => k_is)
    (case gCBadBook => k_is)
    (case gCBadMove => k_is)
    (case gCBadProgram => k_is)
    (case gCBadPlan => k_is)
    (case gCUnfit => k_is)
    (case gCTooLarge => k_is)
    (case gCBadEdit => k_is)
    (case hn0 => k_is)
    (case ht0 => k_is)
    (case a_l_int => k_is)
    (case l_l_int => k_is)
    (case c_l_int => k_is)
    (case k_l_int => k_is)
    (case a_l_pool => k_is)
    (case l_l_pool => k_is)
    (case c_l_pool => k_is)
    (case k_l_pool => k_is)
    (case a_l_stirred => k_is)
    (case l_l_stirred => k_is)
    (case c_l_stirred => k_is)
    (case k_l_stirred => k_is)
    (case a_l_draw => k_is)
    (case l_l_draw => k_is)
    (case c_l_draw => k_is)
    (case k_l_draw => k_is)
    (case a_l_size => k_is)
    (case l_l_size => k_is)
    (case c_l_size => k_is)
    (case k_l_size => k_is)
    (case a_l_fraction => k_is)
    (case l_l_fraction => k_is)
    (case c_l_fraction => k_is)
    (case k_l_fraction => k_is)
    (case a_law => k_is)
    (case l_law => k_is)
    (case c_law => k_is)
    (case k_law => k_is)
    (case a_is_unsigned => k_is)
    (case l_is_unsigned => k_is)
    (case c_is_unsigned => k_is)
    (case k_is_unsigned => k_is)
    (case a_l_low => k_is)
    (case l_l_low => k_is)
    (case c_l_low => k_is)
    (case k_l_low => k_is)
    (case a_l_sign => k_is)
    (case l_l_sign => k_is)
    (case c_l_sign => k_is)
    (case k_l_sign => k_is)
    (case a_l_changed => k_is)
    (case l_l_changed => k_is)
    (case c_l_changed => k_is)
    (case k_l_changed => k_is)
    (case a_l_odd_text => k_is)
    (case l_l_odd_text => k_is)
    (case c_l_odd_text => k_is)
    (case k_l_odd_text => k_is)
    (case a_l_long_text => k_is)
    (case l_l_long_text => k_is)
    (case c_l_long_text => k_is)
    (case k_l_long_text => k_is)
    (case a_l_second_text => k_is)
    (case l_l_second_text => k_is)
    (case c_l_second_text => k_is)
    (case k_l_second_text => k_is)
    (case a_l_digits => k_is)
    (case l_l_digits => k_is)
    (case c_l_digits => k_is)
    (case k_l_digits => k_is)
    (case a_l_read => k_is)
    (case l_l_read => k_is)
    (case c_l_read => k_is)
    (case k_l_read => k_is)
    (case a_l_fields => k_is)
    (case l_l_fields => k_is)
    (case c_l_fields => k_is)
    (case k_l_fields => k_is)
    (case a_l_refused => k_is)
    (case l_l_refused => k_is)
    (case c_l_refused => k_is)
    (case k_l_refused => k_is)
    (case a_l_text_holds => k_is)
    (case l_l_text_holds => k_is)
    (case c_l_text_holds => k_is)
    (case k_l_text_holds => k_is)
    (case z_isinstance => k_is)
    (case z_int => k_is)
    (case z_bool => k_is)
    (case z_len => k_is)
    (case z_abs => k_is)
    (case z_max => k_is)
    (case z_range => k_is)
    (case z_ValueError => k_is)
    (case z_str => k_is)
    (case a_Share___mul__ => k_is)
    (case i_Share___mul__ => k_is)
    (case l_Share___mul__ => k_is)
    (case c_Share___mul__ => k_is)
    (case k_Share___mul__ => k_is)
    (case a_Share___str__ => k_is)
    (case i_Share___str__ => k_is)
    (case l_Share___str__ => k_is)
    (case c_Share___str__ => k_is)
    (case k_Share___str__ => k_is)
    (case kCOddsError => k_is)
    (case bCOddsError => k_is)
    (case tCOddsError => k_is)
    (case gaCOddsError => k_is)
    (case gbCOddsError => k_is)
    (case hdCOddsError => k_is)
    (case clCOddsError => k_is)
    (case mrCOddsError => k_is)
    (case kCBadShare => k_is)
    (case bCBadShare => k_is)
    (case tCBadShare => k_is)
    (case gaCBadShare => k_is)
    (case gbCBadShare => k_is)
    (case hdCBadShare => k_is)
    (case clCBadShare => k_is)
    (case mrCBadShare => k_is)
    (case kCBadText => k_is)
    (case bCBadText => k_is)
    (case tCBadText => k_is)
    (case gaCBadText => k_is)
    (case gbCBadText => k_is)
    (case hdCBadText => k_is)
    (case clCBadText => k_is)
    (case mrCBadText => k_is)
    (case kCBadBook => k_is)
    (case bCBadBook => k_is)
    (case tCBadBook => k_is)
    (case gaCBadBook => k_is)
    (case gbCBadBook => k_is)
    (case hdCBadBook => k_is)
    (case clCBadBook => k_is)
    (case mrCBadBook => k_is)
    (case kCBadMove => k_is)
    (case bCBadMove => k_is)
    (case tCBadMove => k_is)
    (case gaCBadMove => k_is)
    (case gbCBadMove => k_is)
    (case hdCBadMove => k_is)
    (case clCBadMove => k_is)
    (case mrCBadMove => k_is)
    (case kCBadProgram => k_is)
    (case bCBadProgram => k_is)
    (case tCBadProgram => k_is)
    (case gaCBadProgram => k_is)
    (case gbCBadProgram => k_is)
    (case hdCBadProgram => k_is)
    (case clCBadProgram => k_is)
    (case mrCBadProgram => k_is)
    (case kCBadPlan => k_is)
    (case bCBadPlan => k_is)
    (case tCBadPlan => k_is)
    (case gaCBadPlan => k_is)
    (case gbCBadPlan => k_is)
    (case hdCBadPlan => k_is)
    (case clCBadPlan => k_is)
    (case mrCBadPlan => k_is)
    (case kCUnfit => k_is)
    (case bCUnfit => k_is)
    (case tCUnfit => k_is)
    (case gaCUnfit => k_is)
    (case gbCUnfit => k_is)
    (case hdCUnfit => k_is)
    (case clCUnfit => k_is)
    (case mrCUnfit => k_is)
    (case kCTooLarge => k_is)
    (case bCTooLarge => k_is)
    (case tCTooLarge => k_is)
    (case gaCTooLarge => k_is)
    (case gbCTooLarge => k_is)
    (case hdCTooLarge => k_is)
    (case clCTooLarge => k_is)
    (case mrCTooLarge => k_is)
    (case kCBadEdit => k_is)
    (case bCBadEdit => k_is)
    (case tCBadEdit => k_is)
    (case gaCBadEdit => k_is)
    (case gbCBadEdit => k_is)
    (case hdCBadEdit => k_is)
    (case clCBadEdit => k_is)
    (case mrCBadEdit => k_is)
    (case ggcd => k_is)
    (case Spg => k_is)
    (case Shd => k_is)
    (case Spo => k_is)
    (case Ssa => k_is)
    (case Snt => k_is)
    (case Snb => k_is)
    (case Sca => k_is)
    (case Shm => k_is)
    (case Ssf => k_is)
    (case Sty => k_is)
    (case Smk => k_is)
    (case Skp => k_is)
    (case Ssint => k_is)
    (case Ssbool => k_is)
    (case SsNoneType => k_is)
    (case Ssstr => k_is)
    (case Sstuple => k_is)
    (case Sslist => k_is)
    (case a_init => k_is)
    (case i_init => k_is)
    (case l_init => k_is)
    (case c_init => k_is)
    (case k_init => k_is)
    (case lT => k_is)
    (case xBS => k_exc)
    (case up => k_is)
    (case upV => k_is)
    (case noBadText => k_is)
    (case neBadText => decide)
    (case noBadBook => k_is)
    (case neBadBook => decide)
    (case noBadMove => k_is)
    (case neBadMove => decide)
    (case noBadProgram => k_is)
    (case neBadProgram => decide)
    (case noBadPlan => k_is)
    (case neBadPlan => decide)
    (case noUnfit => k_is)
    (case neUnfit => decide)
    (case noTooLarge => k_is)
    (case neTooLarge => decide)
    (case noBadEdit => k_is)
    (case neBadEdit => decide)
    (case g_MOST_DIGITS => k_is)
    (case at_Share_parse => k_is)
    (case rc_Share_parse => k_is)
    (case rd_Share_parse => k_is)
    (case ga_Share_parse => k_is)
    (case fc_Share_parse => k_is)
    (case pg_Share_parse => k_is)
    (case ic_Share_parse => k_is)
    (case ty_Share_parse => k_is)
    (case gt_Share_parse => k_is)
    (case tk_Share_parse => k_is)
    (case l_Share_parse => k_is)
    (case c_Share_parse => k_is)
    (case k_Share_parse => k_is)

