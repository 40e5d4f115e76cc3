import PyProof.Rows.All
import Wide.All
import OpenK.AllK
import Wide.FinOn
import HandS.ForMost
import HandS.WideBits
import HandS.IsInst
import HandS.EndBits
import HandS.Codes
import HandS.Defaults
import KE.IntBitsLaws
import HandS.More
import PyProof.InstEq
import HandS.ExcInit
import HandS.ExcField
import HandS.TryOnly
import KE.KExcInit
import PyProof.ExcBaseAll.ArithmeticError
import HandS.WordsExc
import PyProof.Seq
import PySem.Challenge.RW_walkmade_k08_rounds_of_numbers
import HandS.Style
import HandS.Zip
import KE.RegKIsAll
import KE.KExcLine
set_option Elab.async false
set_option linter.all false
set_option maxRecDepth 100000
set_option maxHeartbeats 4000000
/-! Readings by steps that look at the head of the goal alone. -/
namespace Rd
open PySem PySem.Spec PyProof.Rows L2

/-! ### defs of the text, packed -/
/-- the def x of the text st stands in the module -/
structure Tx (K : PySem.W.Frag) (mg : Str → Option Value) (x n : Str) (st : Stmt) (ps : List Str) : Prop where
  ex : ∃ f fd, mg x = some (.ref f) ∧ Fun K n n st f fd ∧ Binds K fd ps []
/-- the def x keeps its promise -/
structure Kn (P : Program) (w : World) (K : PySem.W.Frag) (mg : Str → Option Value) (base : Heap) (CX : CXT) (k : Nat) (x : Str) (ps : List Str) (sp : Sp) : Prop where
  ex : ∃ f fd, mg x = some (.ref f) ∧ PySem.W.keepIn K (.ref f) = true ∧ Binds K fd ps [] ∧ FnOk P w K mg base CX k f fd ps sp
/-- a method m of the class at C -/
structure KnM (P : Program) (w : World) (K : PySem.W.Frag) (mg : Str → Option Value) (base : Heap) (CX : CXT) (k : Nat) (C : Addr) (m : Str) (ps : List Str) (sp : Sp) : Prop where
  ex : ∃ f fd, Meth K C m f ∧ Binds K fd ps [] ∧ FnOk P w K mg base CX k f fd ps sp
/-- a class whose __init__ keeps its promise -/
structure KnC (P : Program) (w : World) (K : PySem.W.Frag) (mg : Str → Option Value) (base : Heap) (CX : CXT) (k : Nat) (x : Str) (C : Addr) (ps : List Str) (sp : Sp) : Prop where
  ex : ∃ f fd, mg x = some (.ref C) ∧ Mk K C f ∧ Binds K fd ps [] ∧ FnOk P w K mg base CX k f fd ps sp
/-- a method of the text -/
structure TxM (K : PySem.W.Frag) (C : Addr) (m qual : Str) (st : Stmt) (ps : List Str) : Prop where
  ex : ∃ f fd, Meth K C m f ∧ Fun K m qual st f fd ∧ Binds K fd ps []
structure TxC (K : PySem.W.Frag) (mg : Str → Option Value) (x : Str) (C : Addr) (qual : Str) (st : Stmt) (ps : List Str) : Prop where
  ex : ∃ f fd, mg x = some (.ref C) ∧ Mk K C f ∧ Fun K "__init__" qual st f fd ∧ Binds K fd ps []

section
variable {P : Program} {w : World} {K : PySem.W.Frag} {mg : Str → Option Value} {base : Heap} {CX : CXT} {k : Nat} {x : Str} {ps : List Str} {sp : Sp}
theorem Kn.mono (h : Kn P w K mg base CX k x ps sp) {j : Nat} (hj : k ≤ j) : Kn P w K mg base CX j x ps sp :=
  let ⟨f, fd, a, b, c, d⟩ := h.ex
  ⟨f, fd, a, b, c, d.mono hj⟩
theorem Tx.kn {n : Str} {st : Stmt} (t : Tx K mg x n st ps) (h : ∀ f fd, Fun K n n st f fd → FnOk P w K mg base CX k f fd ps sp) : Kn P w K mg base CX k x ps sp :=
  let ⟨f, fd, a, b, c⟩ := t.ex
  ⟨f, fd, a, b.kp, c, h f fd b⟩
theorem TxM.kn {C : Addr} {m qual : Str} {st : Stmt} (t : TxM K C m qual st ps) (h : ∀ f fd, Fun K m qual st f fd → FnOk P w K mg base CX k f fd ps sp) : KnM P w K mg base CX k C m ps sp :=
  let ⟨f, fd, a, b, c⟩ := t.ex
  ⟨f, fd, a, c, h f fd b⟩
theorem TxC.kn {C : Addr} {qual : Str} {st : Stmt} (t : TxC K mg x C qual st ps) (h : ∀ f fd, Fun K "__init__" qual st f fd → FnOk P w K mg base CX k f fd ps sp) : KnC P w K mg base CX k x C ps sp :=
  let ⟨f, fd, a, b, c, d⟩ := t.ex
  ⟨f, fd, a, b, d, h f fd c⟩
end
section
variable {X : Cx} {k j : Nat} {x : Str} {ps : List Str} {sp : Sp} {p pos apos : Pos} {e o : Expr} {es : List Expr} {t : TA} {ta : TE} {C : Addr} {m : Str}
/-- f(e, ..) -/
theorem pk (h : Kn X.prog X.w X.K X.mg X.base CX0 k x ps sp) (hr : Room j X.A) (ha : PA X (e :: es) t) (hj : k ≤ j := by decide) (hg : Gl X x := by rfl) (hdb : (x == ("__debug__" : Str)) = false := by decide)
    (he : starEach (e :: es) X.env = (false, eval e X.env) :: starEach es X.env := by rfl) (hpl : (backTo pos (starEach es X.env)).any (·.1) = false := by rfl) : PE X (.Call (.Name x p) (e :: es) [] pos) (tCall sp [] E0 t) := by
  obtain ⟨f, fd, a, b, c, d⟩ := h.ex
  exact pe_call d (hr.mono hj) hg a b c .nil pass0 ha hdb he hpl
theorem pk0 (h : Kn X.prog X.w X.K X.mg X.base CX0 k x ps sp) (hr : Room j X.A) (hj : k ≤ j := by decide) (hg : Gl X x := by rfl) (hdb : (x == ("__debug__" : Str)) = false := by decide) : PE X (.Call (.Name x p) [] [] pos) (tCall sp [] E0 tNil) := by
  obtain ⟨f, fd, a, b, c, d⟩ := h.ex
  exact pe_call0 d (hr.mono hj) hg a b c .nil pass0 hdb
/-- C(e, ..) -/
theorem pkC (h : KnC X.prog X.w X.K X.mg X.base CX0 k x C ps sp) (hr : Room j X.A) (ha : PA X (e :: es) t) (hj : k + 1 ≤ j := by decide) (hg : Gl X x := by rfl) (hdb : (x == ("__debug__" : Str)) = false := by decide)
    (he : starEach (e :: es) X.env = (false, eval e X.env) :: starEach es X.env := by rfl) (hpl : (backTo pos (starEach es X.env)).any (·.1) = false := by rfl) : PE X (.Call (.Name x p) (e :: es) [] pos) (tMake C sp [] E0 t) := by
  obtain ⟨f, fd, a, b, c, d⟩ := h.ex
  exact pe_make b d (hr.mono hj) hg a c .nil pass0 ha hdb he hpl
/-- o.m() -/
theorem pkM0 (h : KnM X.prog X.w X.K X.mg X.base CX0 k C m ps sp) (cl : Cls X.K C) (hr : Room j X.A) (ho : PE X o ta) {pl : Sem Bool}
    (ht : eval (.Call (.Attribute o m apos) [] [] pos) X.env = (do
      let ov ← eval o X.env
      standAt apos.atName
      let (f, first) ← holding [ov] (getMethod ov m pl)
      callWith pos f first (backTo pos (starEach [] X.env)) (backToKw pos (keywordEach [] X.env)))) (hj : k ≤ j := by decide) :
    PE X (.Call (.Attribute o m apos) [] [] pos) (tMeth C m sp [] E0 ta tNil) := by
  obtain ⟨f, fd, a, b, d⟩ := h.ex
  exact pe_meth0 ho cl a d (hr.mono hj) b .nil pass0 ht
/-- a class or a constant of the module, as a value -/
theorem pg (x : Str) {v : V} {u : Value} (hm : X.mg x = some u) (r : RelV v u) (hg : Gl X x := by rfl) (hd : (x == ("__debug__" : Str)) = false := by decide) : PE X (.Name x pos) (tC v) := pe_glob hg hm r hd
end
/-- v is .int, .str, .non, .bl -/
theorem rty (n : String) : RelV (.ty n) (.type n) := rfl
theorem rref (a : Addr) : RelV (.ref a) (.ref a) := rfl

/-! ### what is wanted, by the head of the goal -/
section
variable {σ : L2.St} {H : Hp} {Q : VK} {ta tb te : TE} {x y v : V} {r : R2} {K : PySem.W.Frag}
theorem w_var {i : Nat} (h : σ[i]? = some (some v)) (q : Q v H) : tVar i σ H Q := ⟨v, h, q⟩
theorem w_c (q : Q v H) : tC v σ H Q := q
theorem w_op (h : ta σ H fun x H1 => tb σ H1 fun y H2 => r x y H2 Q) : tOp r ta tb σ H Q := h
theorem w_un {r : V → Hp → VK → Prop} (h : ta σ H fun x H1 => r x H1 Q) : tUn r ta σ H Q := h
theorem w_I0 {g : Int → Int → V} {i j : Int} (q : Q (g i j) H) : rI0 g (.int i) (.int j) H Q := ⟨i, j, rfl, rfl, q⟩
theorem w_I {C : Int → Int → Prop} {g : Int → Int → V} {i j : Int} (c : C i j) (q : Q (g i j) H) : rI C g (.int i) (.int j) H Q := ⟨i, j, rfl, rfl, c, q⟩
theorem w_U {g : Int → V} {i : Int} (q : Q (g i) H) : rU g (.int i) H Q := ⟨i, rfl, q⟩
theorem w_eq (s : scal x y = true) (q : Q (.bl (decide (x = y))) H) : rEq x y H Q := ⟨s, q⟩
theorem w_ne (s : scal x y = true) (q : Q (.bl (!decide (x = y))) H) : rNe x y H Q := ⟨s, q⟩
theorem w_bits (h : te σ H fun x H1 => ∃ i, x = .int i ∧ Q (.int (Builtin.Int.intBits i : Nat)) H1) : tBits te σ H Q := h
theorem w_bitsI {R : Int → Prop} {i : Int} (q : R i) : ∃ i', V.int i = .int i' ∧ R i' := ⟨i, rfl, q⟩
def TupK (xs : List V) (H : Hp) (Q : VK) : Prop := xs.length ≤ sizeLine ∧ ∀ p, H p = none → Q (.ref p) (upd H p (.tup xs))
def LstK (xs : List V) (H : Hp) (Q : VK) : Prop := xs.length ≤ sizeLine ∧ ∀ p, H p = none → Q (.ref p) (upd H p (.lst xs))
theorem w_tup {t : TA} (h : t σ H fun xs H1 => TupK xs H1 Q) : tTup t σ H Q := h
theorem w_lst {t : TA} (h : t σ H fun xs H1 => LstK xs H1 Q) : tLst t σ H Q := h
theorem w_nil {Q : List V → Hp → Prop} (q : Q [] H) : tNil σ H Q := q
theorem w_cons {ta : TE} {tr : TA} {Q : List V → Hp → Prop} (h : ta σ H fun x H1 => tr σ H1 fun xs H2 => Q (x :: xs) H2) : tCons ta tr σ H Q := h
theorem w_fld {f : Str} (h : ta σ H fun x H1 => ∃ a C dx fs v, x = .ref a ∧ H1 a = some (.ins C dx fs) ∧ Cls K C ∧ NoAttr K C f ∧ fs.lookup f = some v ∧ Q v H1) : tFld K ta f σ H Q := h
theorem w_fldI {R : V → Prop} {f : Str} {a C dx : Addr} {fs : List (Str × V)} (ho : H a = some (.ins C dx fs)) (c : Cls K C) (n : NoAttr K C f) (l : fs.lookup f = some v) (q : R v) :
    ∃ a' C dx fs v, V.ref a = .ref a' ∧ H a' = some (.ins C dx fs) ∧ Cls K C ∧ NoAttr K C f ∧ fs.lookup f = some v ∧ R v := ⟨a, C, dx, fs, v, rfl, ho, c, n, l, q⟩
theorem w_sfI {R : Addr → Addr → List (Str × V) → Addr → Prop} {f : Str} {a C dx : Addr} {fs : List (Str × V)} (ho : H a = some (.ins C dx fs)) (c : Cls K C) (n : NoAttr K C f) (l : fs.length < 1000) (q : R a dx fs C) :
    ∃ a' C dx fs, V.ref a = .ref a' ∧ H a' = some (.ins C dx fs) ∧ Cls K C ∧ NoAttr K C f ∧ fs.length < 1000 ∧ R a' dx fs C := ⟨a, C, dx, fs, rfl, ho, c, n, l, q⟩
theorem w_call {sp : Sp} {dvs : List V} {E : XK} {t : TA} (h : t σ H fun vs H1 => sp (vs ++ dvs) H1 Q E) : tCall sp dvs E t σ H Q := h
def MakeK (C : Addr) (sp : Sp) (vs : List V) (H1 : Hp) (Q : VK) (E : XK) : Prop := ∀ x dx, H1 x = none → H1 dx = none → dx ≠ x → sp (.ref x :: (vs ++ [])) (upd (upd H1 dx (.own x)) x (.ins C dx [])) (fun v H2 => v = .non ∧ Q (.ref x) H2) E
theorem w_make {C : Addr} {sp : Sp} {E : XK} {t : TA} (h : t σ H fun vs H1 => MakeK C sp vs H1 Q E) : tMake C sp [] E t σ H Q := h
theorem w_cb {r : List V → Hp → VK → Prop} {t : TA} (h : t σ H fun vs H1 => r vs H1 Q) : tCB r t σ H Q := h
theorem w_bl {R : Bool → Prop} {k : Bool} (q : R k) : ∃ k', V.bl k = .bl k' ∧ R k' := ⟨k, rfl, q⟩
theorem w_test {Q : Bool → Hp → Prop} (h : te σ H fun x H' => ∃ k, x = .bl k ∧ Q k H') : tTest te σ H Q := h
theorem w_B {Q : Bool → Hp → Prop} (h : te σ H fun x H' => ∃ k, x = .bl k ∧ Q k H') : tB te σ H Q := h
theorem w_andV (h : ta σ H fun x H1 => ∃ c, x = .bl c ∧ if c = true then tb σ H1 Q else Q (.bl false) H1) : tAndV ta tb σ H Q := h
theorem w_orV (h : ta σ H fun x H1 => ∃ c, x = .bl c ∧ if c = true then Q (.bl true) H1 else tb σ H1 Q) : tOrV ta tb σ H Q := h
theorem w_notV (h : ta σ H fun x H1 => ∃ c, x = .bl c ∧ Q (.bl (!c)) H1) : tNotV ta σ H Q := h
theorem w_and {t u : TT} {Q : Bool → Hp → Prop} (h : t σ H fun c H1 => if c = true then u σ H1 Q else Q false H1) : tAnd t u σ H Q := h
theorem w_or {t u : TT} {Q : Bool → Hp → Prop} (h : t σ H fun c H1 => if c = true then Q true H1 else u σ H1 Q) : tOr t u σ H Q := h
theorem w_not {t : TT} {Q : Bool → Hp → Prop} (h : t σ H fun c H1 => Q (!c) H1) : tNot t σ H Q := h
theorem w_if {t : TT} (h : t σ H fun c H1 => if c = true then ta σ H1 Q else tb σ H1 Q) : tIf t ta tb σ H Q := h
theorem w_isi {x c : V} {t u : Value} {b : Bool} (k : ClsV c u) (ty : TyX K H x t) (e : PySem.W.kitOne K t u = some b) (q : Q (.bl b) H) : rIsi K [x, c] H Q := ⟨x, c, t, u, b, rfl, k, ty, e, q⟩
/-! statements -/
variable {D : Ends} {t u : TS} {n bk ct : L2.St → Hp → Prop} {rt : VK}
theorem w_nx (q : n σ H) : (Ends.mk n rt bk ct).nx σ H := q
theorem w_rt (q : rt v H) : (Ends.mk n rt bk ct).rt v H := q
theorem w_bk (q : bk σ H) : (Ends.mk n rt bk ct).bk σ H := q
theorem w_ct (q : ct σ H) : (Ends.mk n rt bk ct).ct σ H := q
theorem w_seq (h : t { D with nx := u D } σ H) : tSeq t u D σ H := h
theorem w_cut {Mid : L2.St → Hp → Prop} (h1 : t { D with nx := Mid } σ H) (h2 : ∀ σ' H', Mid σ' H' → u D σ' H') : C8.tCut t u D σ H := ⟨Mid, h1, h2⟩
theorem w_next (h : D.nx σ H) : tNext D σ H := h
theorem w_brk (h : D.bk σ H) : tBreak D σ H := h
theorem w_cont (h : D.ct σ H) : tCont D σ H := h
theorem w_ret (h : te σ H D.rt) : tRet te D σ H := h
theorem w_ifS {c : TT} (h : c σ H fun b H1 => if b = true then t D σ H1 else u D σ H1) : tIfS c t u D σ H := h
theorem w_asg {g : TG} (h : te σ H fun x H1 => g x σ H1 D.nx) : tAsg te g D σ H := h
theorem w_name {i : Nat} {Q : L2.St → Hp → Prop} (h : Q (σ.set i (some v)) H) : gName i v σ H Q := h
theorem w_par {i j : Nat} {ta : TA} (h : ta σ H fun vs H1 => ∃ v w, vs = [v, w] ∧ D.nx ((σ.set i (some v)).set j (some w)) H1) : tPar i j ta D σ H := h
theorem w_parI {R : V → V → Prop} {v w : V} (h : R v w) : ∃ v' w', [v, w] = [v', w'] ∧ R v' w' := ⟨v, w, rfl, h⟩
theorem w_ii {R : Int → Int → Prop} {a b : Int} (h : R a b) : ∃ i j, [V.int a, V.int b] = [V.int i, V.int j] ∧ R i j := ⟨a, b, rfl, h⟩
theorem w_i1 {R : Int → Prop} {a : Int} (h : R a) : ∃ i, [V.int a] = [V.int i] ∧ R i := ⟨a, rfl, h⟩
theorem w_drop (h : te σ H fun _ H1 => D.nx σ H1) : tDrop te D σ H := h
theorem w_sFld {tv : TE} {f : Str} (h : tv σ H fun y H1 => ta σ H1 fun x H2 => ∃ a C dx fs, x = .ref a ∧ H2 a = some (.ins C dx fs) ∧ Cls K C ∧ NoAttr K C f ∧ fs.length < 1000 ∧ D.nx σ (upd H2 a (.ins C dx (putF f y fs)))) : sFld K ta tv f D σ H := h
theorem iT {A B : Prop} (h : A) : if true = true then A else B := by rw [if_pos rfl]; exact h
theorem iF {A B : Prop} (h : B) : if false = true then A else B := by rw [if_neg Bool.false_ne_true]; exact h
theorem iD {c : Prop} [Decidable c] {A B : Prop} (h1 : c → A) (h2 : ¬ c → B) : if decide c = true then A else B := by
  by_cases h : c
  · rw [decide_eq_true h]; exact iT (h1 h)
  · rw [decide_eq_false h]; exact iF (h2 h)
theorem iN {c : Prop} [Decidable c] {A B : Prop} (h1 : ¬ c → A) (h2 : c → B) : if (!decide c) = true then A else B := by
  by_cases h : c
  · rw [decide_eq_true h]; exact iF (h2 h)
  · rw [decide_eq_false h]; exact iT (h1 h)
theorem iB {b : Bool} {A B : Prop} (h1 : b = true → A) (h2 : b = false → B) : if b = true then A else B := by
  cases b with
  | true => exact iT (h1 rfl)
  | false => exact iF (h2 rfl)
end
end Rd
open Rd L2 in
section
local macro_rules | `(tactic| walk_at "rd") => `(tactic| first
  | with_reducible refine w_var rfl ?_
  | with_reducible refine w_c ?_
  | with_reducible refine w_op ?_)
end

set_option Elab.async false
set_option linter.all false
set_option maxRecDepth 100000
set_option maxHeartbeats 4000000
/-! The numbers of the program as plain functions. -/
namespace Nu
open PySem L2
abbrev bits (n : Int) : Int := (Builtin.Int.intBits n : Nat)
theorem bits_nn (n : Int) : 0 ≤ bits n := Int.natCast_nonneg _
theorem bits_le {n : Int} {k : Nat} : bits n ≤ k ↔ n.natAbs < 2 ^ k := by
  unfold bits
  rw [Int.ofNat_le]
  exact PySem.intBits_le_iff
theorem bits_zero : bits 0 = 0 := rfl
theorem pow_pos2 (k : Nat) : (0 : Int) < 2 ^ k := Int.pow_pos (by decide)
theorem pow_mono {a b : Nat} (h : a ≤ b) : (2 : Int) ^ a ≤ 2 ^ b := by
  have e : b = a + (b - a) := by omega
  rw [e, Int.pow_add]
  have h1 := pow_pos2 a
  have h2 := pow_pos2 (b - a)
  have := Int.mul_le_mul_of_nonneg_left (show (1 : Int) ≤ 2 ^ (b - a) by omega) (Int.le_of_lt h1)
  omega
theorem pow_cast (k : Nat) : ((2 ^ k : Nat) : Int) = 2 ^ k := by simp
theorem bits_lt_pow {n : Int} (h : 0 ≤ n) {k : Nat} : bits n ≤ k ↔ n < 2 ^ k := by
  rw [bits_le]
  have e := pow_cast k
  omega
/-- 2 ^ (bits n - 1) ≤ n < 2 ^ bits n -/
theorem lt_pow_bits {n : Int} (h : 0 ≤ n) : n < 2 ^ (Builtin.Int.intBits n) := (bits_lt_pow h).1 (Int.le_refl _)
theorem pow_bits_le {n : Int} (h : 0 < n) : (2 : Int) ^ (Builtin.Int.intBits n - 1) ≤ n := by
  have hb : Builtin.Int.intBits n ≠ 0 := by
    intro e
    have := lt_pow_bits (n := n) (by omega)
    rw [e] at this
    simp at this
    omega
  have h2 : ¬ bits n ≤ ((Builtin.Int.intBits n - 1 : Nat) : Int) := by
    unfold bits
    omega
  rw [bits_lt_pow (by omega)] at h2
  omega
theorem bits_pos {n : Int} (h : 0 < n) : 0 < Builtin.Int.intBits n := by
  have := lt_pow_bits (n := n) (by omega)
  rcases Nat.eq_zero_or_pos (Builtin.Int.intBits n) with e | e
  · rw [e] at this; simp at this; omega
  · exact e
/-- bits by its bounds -/
theorem bits_eq {n : Int} {k : Nat} (h1 : (2 : Int) ^ k ≤ n) (h2 : n < 2 ^ (k + 1)) : bits n = k + 1 := by
  have p := pow_pos2 k
  have a : bits n ≤ ((k + 1 : Nat) : Int) := (bits_lt_pow (by omega)).2 h2
  have b : ¬ bits n ≤ ((k : Nat) : Int) := by rw [bits_lt_pow (by omega)]; omega
  omega
theorem bits_shift {n : Int} (h : 0 < n) (k : Nat) : bits (n * 2 ^ k) = bits n + k := by
  have hp := bits_pos h
  have h1 := pow_bits_le h
  have h2 := lt_pow_bits (n := n) (by omega)
  have pk := pow_pos2 k
  have e : Builtin.Int.intBits n - 1 + 1 = Builtin.Int.intBits n := by omega
  have a1 : (2 : Int) ^ (Builtin.Int.intBits n - 1 + k) ≤ n * 2 ^ k := by
    rw [Int.pow_add]
    exact Int.mul_le_mul_of_nonneg_right h1 (by omega)
  have a2 : n * 2 ^ k < 2 ^ (Builtin.Int.intBits n - 1 + k + 1) := by
    rw [show Builtin.Int.intBits n - 1 + k + 1 = Builtin.Int.intBits n + k by omega, Int.pow_add]
    exact Int.mul_lt_mul_of_pos_right h2 pk
  rw [bits_eq a1 a2]
  unfold bits
  omega
theorem bits_mono {a b : Int} (h0 : 0 ≤ a) (h : a ≤ b) : bits a ≤ bits b := by
  have := lt_pow_bits (n := b) (by omega)
  exact (bits_lt_pow h0).2 (by omega)

/-! ### the lowest bit -/
theorem nat_low (k j : Nat) : (2 ^ k * (2 * j + 1)) &&& (2 ^ k * (2 * j + 1) - 1) = 2 ^ (k + 1) * j := by
  have hp : 0 < 2 ^ k := Nat.two_pow_pos k
  have e1 : 2 ^ k * (2 * j + 1) = 2 ^ (k + 1) * j + 2 ^ k := by
    rw [Nat.pow_succ, Nat.mul_add, Nat.mul_one, Nat.mul_assoc]
  have e2 : 2 ^ k * (2 * j + 1) - 1 = 2 ^ (k + 1) * j + (2 ^ k - 1) := by rw [e1]; omega
  have l1 : 2 ^ k < 2 ^ (k + 1) := by rw [Nat.pow_succ]; omega
  have l2 : 2 ^ k - 1 < 2 ^ (k + 1) := by omega
  rw [e2]
  conv => lhs; lhs; rw [e1]
  apply Nat.eq_of_testBit_eq
  intro i
  rw [Nat.testBit_and, Nat.testBit_two_pow_mul_add _ l1, Nat.testBit_two_pow_mul_add _ l2]
  have e3 : 2 ^ (k + 1) * j = 2 ^ (k + 1) * j + 0 := rfl
  rw [e3, Nat.testBit_two_pow_mul_add _ (Nat.two_pow_pos _)]
  by_cases hi : i < k + 1
  · rw [if_pos hi, if_pos hi, if_pos hi, Nat.testBit_two_pow, Nat.testBit_two_pow_sub_one, Nat.zero_testBit]
    by_cases hk : k = i
    · subst hk; simp
    · simp [hk]
  · rw [if_neg hi, if_neg hi, if_neg hi, Bool.and_self]
theorem nat_odd : ∀ n : Nat, 0 < n → ∃ k j : Nat, n = 2 ^ k * (2 * j + 1) := by
  intro n
  induction n using Nat.strongRecOn with
  | ind n ih =>
    intro h
    by_cases c : n % 2 = 1
    · exact ⟨0, n / 2, by simp; omega⟩
    · obtain ⟨k, j, e⟩ := ih (n / 2) (by omega) (by omega)
      refine ⟨k + 1, j, ?_⟩
      have e2 : n = 2 * (n / 2) := by omega
      rw [e2, e, Nat.pow_succ]
      rw [Nat.mul_comm (2 ^ k) 2, Nat.mul_assoc]
/-- what (top & -top).bit_length() - 1 is -/
def less (t : Int) : Int := bits (Builtin.bitAnd t (0 - t)) - 1
theorem less_spec {t : Int} (h : 0 < t) : ∃ (k : Nat) (m : Int), 0 ≤ m ∧ t = 2 ^ k * (2 * m + 1) ∧ less t = k := by
  obtain ⟨n, rfl⟩ := Int.eq_ofNat_of_zero_le (Int.le_of_lt h)
  obtain ⟨k, j, e⟩ := nat_odd n (by omega)
  have hp : 0 < 2 ^ k := Nat.two_pow_pos k
  refine ⟨k, j, Int.natCast_nonneg _, ?_, ?_⟩
  · rw [e]
    simp
  · have a : decide (0 ≤ (n : Int)) = true := decide_eq_true (Int.natCast_nonneg _)
    have b : decide (0 ≤ (0 - (n : Int))) = false := decide_eq_false (by omega)
    have c : Builtin.bitNot (0 - (n : Int)) = ((n - 1 : Nat) : Int) := by
      show -(0 - (n : Int)) - 1 = _
      omega
    have d : Builtin.bitAnd (n : Int) (0 - (n : Int)) = 2 ^ k := by
      unfold Builtin.bitAnd
      rw [a, b]
      show (n : Int) - ((((n : Int).toNat &&& (Builtin.bitNot (0 - (n : Int))).toNat : Nat)) : Int) = 2 ^ k
      rw [c, Int.toNat_natCast, Int.toNat_natCast, e, nat_low]
      have e1 : 2 ^ k * (2 * j + 1) = 2 ^ (k + 1) * j + 2 ^ k := by
        rw [Nat.pow_succ, Nat.mul_add, Nat.mul_one, Nat.mul_assoc]
      rw [e1, ← pow_cast k]
      omega
    unfold less
    rw [d, bits_eq (k := k) (Int.le_refl _) (by rw [Int.pow_succ]; have := pow_pos2 k; omega)]
    omega
/-- top and power with an odd top -/
def red (t p : Int) : Int × Int := if t = 0 then (0, 0) else (t / 2 ^ (less t).toNat, p + less t)
theorem red_zero (p : Int) : red 0 p = (0, 0) := if_pos rfl
theorem red_spec {t : Int} (h : 0 < t) (p : Int) : ∃ (k : Nat) (m : Int), 0 ≤ m ∧ t = 2 ^ k * (2 * m + 1) ∧ red t p = (2 * m + 1, p + k) := by
  obtain ⟨k, m, hm, e, l⟩ := less_spec h
  refine ⟨k, m, hm, e, ?_⟩
  unfold red
  rw [if_neg (by omega), l, Int.toNat_natCast]
  have : t / 2 ^ k = 2 * m + 1 := by
    rw [e]
    exact Int.mul_ediv_cancel_left _ (by have := pow_pos2 k; omega)
  rw [this]
def fitsB (t p : Int) : Bool := (decide (t < 9007199254740992) && (decide (-1074 ≤ p) && decide (bits t + p ≤ 1024))) || decide (t = 0)
theorem pow53 : (9007199254740992 : Int) = 2 ^ 53 := by decide
/-- what nearest hands to Float fits -/
theorem red_fits {t p : Int} (h0 : 0 ≤ t) (h1 : t ≤ 9007199254740992) (h2 : -1074 ≤ p) (h3 : bits t + p ≤ 1024) : fitsB (red t p).1 (red t p).2 = true := by
  by_cases z : t = 0
  · subst z; rw [red_zero]; decide
  · obtain ⟨k, m, hm, e, r⟩ := red_spec (t := t) (by omega) p
    rw [r]
    have pk := pow_pos2 k
    have hlt : 2 * m + 1 < 9007199254740992 := by
      by_cases k0 : k = 0
      · subst k0
        simp at e
        omega
      · have p2 : (2 : Int) ≤ 2 ^ k := by
          obtain ⟨j, rfl⟩ : ∃ j, k = j + 1 := ⟨k - 1, by omega⟩
          rw [Int.pow_succ]
          have := pow_pos2 j
          omega
        have : 2 * (2 * m + 1) ≤ 2 ^ k * (2 * m + 1) := Int.mul_le_mul_of_nonneg_right p2 (by omega)
        omega
    have hb : bits t = bits (2 * m + 1) + k := by
      rw [e, Int.mul_comm]
      exact bits_shift (by omega) k
    unfold fitsB
    rw [decide_eq_true hlt, decide_eq_true (show -1074 ≤ p + (k : Int) by omega), decide_eq_true (show bits (2 * m + 1) + (p + (k : Int)) ≤ 1024 by omega)]
    rfl
end Nu

set_option Elab.async false
set_option linter.all false
set_option maxRecDepth 100000
set_option maxHeartbeats 4000000
set_option autoImplicit false
namespace Nu
open PySem L2
def pw (t b : Int) : Int := if -1074 > bits t - bits b - 53 then -1074 else bits t - bits b - 53
def t1 (t b : Int) : Int := if pw t b < 0 then t * 2 ^ (0 - pw t b).toNat else t
def b1 (t b : Int) : Int := if pw t b < 0 then b else b * 2 ^ (pw t b).toNat
def b2 (t b : Int) : Int := if 9007199254740992 ≤ t1 t b / b1 t b then b1 t b * 2 ^ (1 : Int).toNat else b1 t b
def p2 (t b : Int) : Int := if 9007199254740992 ≤ t1 t b / b1 t b then pw t b + 1 else pw t b
def wq (t b : Int) : Int := t1 t b / b2 t b
def wr (t b : Int) : Int := t1 t b % b2 t b
def goesUp (t b : Int) : Prop := b2 t b < 2 * wr t b ∨ (2 * wr t b = b2 t b ∧ Builtin.bitAnd (wq t b) 1 = 1)
instance (t b : Int) : Decidable (goesUp t b) := inferInstanceAs (Decidable (_ ∨ _))
def wh (t b : Int) : Int := if goesUp t b then wq t b + 1 else wq t b
section
variable {t b : Int}
theorem pw_ge : -1074 ≤ pw t b := by unfold pw; split <;> omega
theorem pw_ge2 : bits t - bits b - 53 ≤ pw t b := by unfold pw; split <;> omega
theorem pw_le (h : bits t ≤ 2200) : pw t b ≤ 2200 := by
  have := bits_nn b
  unfold pw; split <;> omega
theorem bits_mul_pow {n : Int} (h : 0 ≤ n) (k : Nat) : bits (n * 2 ^ k) ≤ bits n + k := by
  by_cases z : n = 0
  · subst z; rw [Int.zero_mul, bits_zero]; omega
  · rw [bits_shift (by omega)]; omega
theorem t1_nn (h : 0 ≤ t) : 0 ≤ t1 t b := by
  unfold t1
  split
  · exact Int.mul_nonneg h (Int.le_of_lt (pow_pos2 _))
  · exact h
theorem b1_pos (h : 0 < b) : 0 < b1 t b := by
  unfold b1
  split
  · exact h
  · exact Int.mul_pos h (pow_pos2 _)
theorem b2_pos (h : 0 < b) : 0 < b2 t b := by
  have := b1_pos (t := t) h
  unfold b2
  split
  · exact Int.mul_pos this (pow_pos2 _)
  · exact this
theorem t1_bits (h : 0 ≤ t) (hb : bits t ≤ 2200) : bits (t1 t b) ≤ 3274 := by
  unfold t1
  split
  · have := bits_mul_pow h (0 - pw t b).toNat
    have := pw_ge (t := t) (b := b)
    omega
  · omega
theorem b1_bits (h : 0 < b) (ht : bits t ≤ 2200) (hb : bits b ≤ 2200) : bits (b1 t b) ≤ 4400 := by
  unfold b1
  split
  · omega
  · have := bits_mul_pow (n := b) (by omega) (pw t b).toNat
    have := pw_le (t := t) (b := b) ht
    omega
theorem b2_bits (h : 0 < b) (ht : bits t ≤ 2200) (hb : bits b ≤ 2200) : bits (b2 t b) ≤ 4401 := by
  have h1 := b1_bits h ht hb
  unfold b2
  split
  · have := bits_mul_pow (n := b1 t b) (by have := b1_pos (t := t) h; omega) (1 : Int).toNat
    have e : (((1 : Int).toNat : Nat) : Int) = 1 := rfl
    omega
  · omega
theorem p2_ge : -1074 ≤ p2 t b := by
  have := pw_ge (t := t) (b := b)
  unfold p2
  split <;> omega
/-- the quotient ahead of rounding has at most 54 bits -/
theorem t1_lt (ht : 0 ≤ t) (hb : 0 < b) : t1 t b < 18014398509481984 * b1 t b := by
  have h1 := lt_pow_bits (n := t) ht
  have h2 := pow_bits_le hb
  have hm := bits_pos hb
  have g := pw_ge2 (t := t) (b := b)
  have e54 : (18014398509481984 : Int) = 2 ^ 54 := by decide
  rw [e54]
  unfold bits at g
  generalize hn : Builtin.Int.intBits t = n at *
  generalize hk : Builtin.Int.intBits b = m at *
  unfold t1 b1
  split
  · rename_i c
    have a1 : t * 2 ^ (0 - pw t b).toNat < 2 ^ n * 2 ^ (0 - pw t b).toNat := Int.mul_lt_mul_of_pos_right h1 (pow_pos2 _)
    rw [← Int.pow_add] at a1
    have a2 : (2 : Int) ^ (n + (0 - pw t b).toNat) ≤ 2 ^ (54 + (m - 1)) := pow_mono (by omega)
    have a3 : (2 : Int) ^ (54 + (m - 1)) ≤ 2 ^ 54 * b := by
      rw [Int.pow_add]
      exact Int.mul_le_mul_of_nonneg_left h2 (by decide)
    omega
  · rename_i c
    have a2 : (2 : Int) ^ n ≤ 2 ^ (54 + (m - 1) + (pw t b).toNat) := pow_mono (by omega)
    have a3 : (2 : Int) ^ (54 + (m - 1) + (pw t b).toNat) ≤ 2 ^ 54 * (b * 2 ^ (pw t b).toNat) := by
      rw [Int.pow_add, Int.pow_add, Int.mul_assoc]
      exact Int.mul_le_mul_of_nonneg_left (Int.mul_le_mul_of_nonneg_right h2 (Int.le_of_lt (pow_pos2 _))) (by decide)
    omega
theorem wq_nn (ht : 0 ≤ t) (hb : 0 < b) : 0 ≤ wq t b := Int.ediv_nonneg (t1_nn ht) (Int.le_of_lt (b2_pos hb))
theorem wq_lt (ht : 0 ≤ t) (hb : 0 < b) : wq t b < 9007199254740992 := by
  have h := t1_lt ht hb
  have h1 := b1_pos (t := t) hb
  unfold wq b2
  split
  · have e : b1 t b * 2 ^ (1 : Int).toNat = 2 * b1 t b := by
      show b1 t b * 2 = _
      omega
    rw [e]
    refine Int.ediv_lt_of_lt_mul (by omega) ?_
    omega
  · omega
theorem wr_nn (hb : 0 < b) : 0 ≤ wr t b := Int.emod_nonneg _ (by have := b2_pos (t := t) hb; omega)
theorem wr_lt (hb : 0 < b) : wr t b < b2 t b := Int.emod_lt_of_pos _ (b2_pos hb)
theorem wh_nn (ht : 0 ≤ t) (hb : 0 < b) : 0 ≤ wh t b := by
  have := wq_nn ht hb
  unfold wh; split <;> omega
theorem wh_le (ht : 0 ≤ t) (hb : 0 < b) : wh t b ≤ 9007199254740992 := by
  have := wq_lt ht hb
  unfold wh; split <;> omega
theorem wh_fits (ht : 0 ≤ t) (hb : 0 < b) (h : bits (wh t b) + p2 t b ≤ 1024) : fitsB (red (wh t b) (p2 t b)).1 (red (wh t b) (p2 t b)).2 = true :=
  red_fits (wh_nn ht hb) (wh_le ht hb) p2_ge h
end
end Nu

set_option Elab.async false
set_option linter.all false
set_option maxRecDepth 100000
set_option maxHeartbeats 4000000
namespace Rd
open PySem PySem.Spec L2
section
variable {X : Cx}
theorem pgE (x : Str) {i : Int} {pos : Pos} (hm : ∃ t, X.mg x = some (.int i t)) (hg : Gl X x := by rfl) (hd : (x == ("__debug__" : Str)) = false := by decide) : PE X (.Name x pos) (tC (.int i)) := by
  obtain ⟨t, h⟩ := hm
  exact pe_glob hg h ⟨t, rfl⟩ hd
/-- e.f, as a target -/
def gFld (K : PySem.W.Frag) (to : TE) (f : Str) : TG := fun v σ H Q => to σ H fun x H1 => ∃ a C dx fs, x = .ref a ∧ H1 a = some (.ins C dx fs) ∧ Cls K C ∧ NoAttr K C f ∧ fs.length < 1000 ∧ Q σ (upd H1 a (.ins C dx (putF f v fs)))
theorem pg_fld {o : Expr} {f : Str} {pos : Pos} {to : TE} (ho : PE X o to) : PG X (.Attribute o f pos) (gFld X.K to f) := by
  refine ⟨fun pins s σ H v u Q I r h => ?_⟩
  rw [assign_Attribute]
  refine wpAny_bind (wpAny_holding (thn (ho.run pins s σ H _ I h) fun ov s1 ⟨x, H1, I1, r1, a, C, dx, fs, ex, ea, c, n, l, q1⟩ => ?_))
  subst ex
  obtain rfl : ov = Value.ref a := r1
  refine wpAny_bind (wpAny_standAt (wpAny_bind (wpAny_holding (setattr_ok I1 ea c n l r fun s3 I3 => ?_))))
  exact wpAny_release ⟨σ, _, I3, q1⟩
end
theorem same_get {H H' : Hp} {a : Addr} {o : HO} (s : Same H H') (h : H a = some o) : H' a = some o := s a o h
theorem same_upd {H : Hp} {a : Addr} {o : HO} (h : H a = none) : Same H (upd H a o) := fun b u e => by rw [upd_ne (ne_of_none e h)]; exact e
section
variable {σ : L2.St} {H : Hp} {Q : VK} {ta tb te : TE} {x y v : V} {K : PySem.W.Frag} {xs : List V}
theorem w_tupI (hl : xs.length ≤ 1000) (q : ∀ p H', Same H H' → H p = none → H' p = some (.tup xs) → Q (.ref p) H') : TupK xs H Q :=
  ⟨Nat.le_trans hl (by decide), fun p hp => q p _ (same_upd hp) hp upd_same⟩
theorem w_lstI (hl : xs.length ≤ 1000) (q : ∀ p H', Same H H' → H p = none → H' p = some (.lst xs) → Q (.ref p) H') : LstK xs H Q :=
  ⟨Nat.le_trans hl (by decide), fun p hp => q p _ (same_upd hp) hp upd_same⟩
theorem w_tup1 {x1 : V} (q : ∀ p H', Same H H' → H p = none → H' p = some (.tup [x1]) → Q (.ref p) H') : TupK [x1] H Q := w_tupI (by show 1 ≤ 1000; decide) q
theorem w_lst1 {x1 : V} (q : ∀ p H', Same H H' → H p = none → H' p = some (.lst [x1]) → Q (.ref p) H') : LstK [x1] H Q := w_lstI (by show 1 ≤ 1000; decide) q
theorem w_tup2 {x1 x2 : V} (q : ∀ p H', Same H H' → H p = none → H' p = some (.tup [x1, x2]) → Q (.ref p) H') : TupK [x1, x2] H Q := w_tupI (by show 2 ≤ 1000; decide) q
theorem w_lst2 {x1 x2 : V} (q : ∀ p H', Same H H' → H p = none → H' p = some (.lst [x1, x2]) → Q (.ref p) H') : LstK [x1, x2] H Q := w_lstI (by show 2 ≤ 1000; decide) q
theorem w_tup3 {x1 x2 x3 : V} (q : ∀ p H', Same H H' → H p = none → H' p = some (.tup [x1, x2, x3]) → Q (.ref p) H') : TupK [x1, x2, x3] H Q := w_tupI (by show 3 ≤ 1000; decide) q
theorem w_lst4 {x1 x2 x3 x4 : V} (q : ∀ p H', Same H H' → H p = none → H' p = some (.lst [x1, x2, x3, x4]) → Q (.ref p) H') : LstK [x1, x2, x3, x4] H Q := w_lstI (by show 4 ≤ 1000; decide) q
theorem w_lst3 {x1 x2 x3 : V} (q : ∀ p H', Same H H' → H p = none → H' p = some (.lst [x1, x2, x3]) → Q (.ref p) H') : LstK [x1, x2, x3] H Q := w_lstI (by show 3 ≤ 1000; decide) q
theorem w_in {p : Addr} (h : H p = some (.tup xs)) (f1 : flatV x = true) (f2 : xs.all flatV = true) (q : Q (.bl (inV x xs)) H) : rIn K false x (.ref p) H Q := ⟨p, xs, rfl, .inr (SqT.of h), f1, f2, q⟩
theorem w_nin {p : Addr} (h : H p = some (.tup xs)) (f1 : flatV x = true) (f2 : xs.all flatV = true) (q : Q (.bl (!inV x xs)) H) : rIn K true x (.ref p) H Q := ⟨p, xs, rfl, .inr (SqT.of h), f1, f2, q⟩
theorem w_gtup {n : Nat} {t : TGs} {a : Addr} {Q : L2.St → Hp → Prop} (h : H a = some (.tup xs)) (hn : xs.length = n) (q : t xs σ H Q) : gTup K n t (.ref a) σ H Q := ⟨a, xs, rfl, SqT.of h, hn, q⟩
theorem w_gcons {t : TG} {u : TGs} {v : V} {r : List V} {Q : L2.St → Hp → Prop} (h : t v σ H fun σ' H' => u r σ' H' Q) : gCons t u (v :: r) σ H Q := ⟨v, r, rfl, h⟩
theorem w_gnil {Q : L2.St → Hp → Prop} (h : Q σ H) : gNil [] σ H Q := ⟨rfl, h⟩
theorem w_ixT {p : Addr} {i : Int} (h : H p = some (.tup xs)) (ha : atI xs i = some v) (q : Q v H) : rIxT K (.ref p) (.int i) H Q := ⟨p, xs, i, v, rfl, rfl, SqT.of h, ha, q⟩
theorem w_ixL {p : Addr} {i : Int} (h : H p = some (.lst xs)) (ha : atI xs i = some v) (q : Q v H) : rIxL K (.ref p) (.int i) H Q := ⟨p, xs, i, v, rfl, rfl, SqL.of h, ha, q⟩
theorem w_isN (q : Q (.bl (decide (x = .non))) H) : (V.non = .non ∧ Q (.bl (decide (x = .non))) H) := ⟨rfl, q⟩
theorem dec_ii {i j : Int} : decide (V.int i = V.int j) = decide (i = j) := by
  by_cases h : i = j
  · subst h; simp
  · rw [decide_eq_false h, decide_eq_false (fun e => h (V.int.inj e))]
theorem dec_ss {i j : Str} : decide (V.str i = V.str j) = decide (i = j) := by
  by_cases h : i = j
  · subst h; simp
  · rw [decide_eq_false h, decide_eq_false (fun e => h (V.str.inj e))]
theorem dec_is {i : Int} {j : Str} : decide (V.int i = V.str j) = false := decide_eq_false (fun e => nomatch e)
theorem dec_si {i : Int} {j : Str} : decide (V.str j = V.int i) = false := decide_eq_false (fun e => nomatch e)
/-- the test of two ints for equality -/
theorem w_eqI {i j : Int} (q : Q (.bl (decide (i = j))) H) : rEq (.int i) (.int j) H Q := ⟨rfl, by rw [dec_ii]; exact q⟩
theorem w_neI {i j : Int} (q : Q (.bl (!decide (i = j))) H) : rNe (.int i) (.int j) H Q := ⟨rfl, by rw [dec_ii]; exact q⟩
theorem w_eqS {i j : Str} (q : Q (.bl (decide (i = j))) H) : rEq (.str i) (.str j) H Q := ⟨rfl, by rw [dec_ss]; exact q⟩
theorem w_eqIS {i : Int} {j : Str} (q : Q (.bl false) H) : rEq (.int i) (.str j) H Q := ⟨rfl, by rw [dec_is]; exact q⟩
theorem w_eqSI {i : Int} {j : Str} (q : Q (.bl false) H) : rEq (.str j) (.int i) H Q := ⟨rfl, by rw [dec_si]; exact q⟩
/-- the object ahead of a method's call -/
def MethK (C : Addr) (m : Str) (R : V → Hp → Prop) (x : V) (H : Hp) : Prop := ∃ a dx fs, x = .ref a ∧ H a = some (.ins C dx fs) ∧ fs.lookup m = none ∧ R x H
theorem w_meth {C : Addr} {m : Str} {sp : Sp} {dvs : List V} {E : XK} {t : TA} (h : ta σ H fun x H1 => MethK C m (fun x H1 => t σ H1 fun vs H2 => sp (x :: (vs ++ dvs)) H2 Q E) x H1) : tMeth C m sp dvs E ta t σ H Q := h
theorem w_methI {C : Addr} {m : Str} {R : V → Hp → Prop} {a dx : Addr} {fs : List (Str × V)} (h : H a = some (.ins C dx fs)) (l : fs.lookup m = none) (q : R (.ref a) H) : MethK C m R (.ref a) H := ⟨a, dx, fs, rfl, h, l, q⟩
theorem w_nn {R : Prop} (q : R) : V.non = V.non ∧ R := ⟨rfl, q⟩
end
/-- a class whose __init__ has defaults dvs behind what is written -/
structure KnCD (P : Program) (w : World) (K : PySem.W.Frag) (mg : Str → Option Value) (base : Heap) (CX : CXT) (k : Nat) (x : Str) (C : Addr) (ps : List Str) (dvs : List V) (sp : Sp) : Prop where
  ex : ∃ f fd ds, mg x = some (.ref C) ∧ Mk K C f ∧ Vals dvs ds ∧ Binds K fd ps ds ∧ FnOk P w K mg base CX k f fd ps sp
theorem pkCD {X : Cx} {k j : Nat} {x : Str} {ps : List Str} {sp : Sp} {p pos : Pos} {e : Expr} {es : List Expr} {t : TA} {C : Addr} {dvs : List V} (h : KnCD X.prog X.w X.K X.mg X.base CX0 k x C ps dvs sp) (hr : Room j X.A) (ha : PA X (e :: es) t) (hj : k + 1 ≤ j := by decide) (hg : Gl X x := by rfl) (hdb : (x == ("__debug__" : Str)) = false := by decide)
    (he : starEach (e :: es) X.env = (false, eval e X.env) :: starEach es X.env := by rfl) (hpl : (backTo pos (starEach es X.env)).any (·.1) = false := by rfl) : PE X (.Call (.Name x p) (e :: es) [] pos) (tMake C sp dvs E0 t) := by
  obtain ⟨f, fd, ds, a, b, c, d, g⟩ := h.ex
  exact pe_make b g (hr.mono hj) hg a d c pass0 ha hdb he hpl
def MakeKD (C : Addr) (sp : Sp) (dvs vs : List V) (H1 : Hp) (Q : VK) (E : XK) : Prop := ∀ x dx, H1 x = none → H1 dx = none → dx ≠ x → sp (.ref x :: (vs ++ dvs)) (upd (upd H1 dx (.own x)) x (.ins C dx [])) (fun v H2 => v = .non ∧ Q (.ref x) H2) E
theorem w_makeD {C : Addr} {sp : Sp} {E : XK} {t : TA} {dvs : List V} {σ : L2.St} {H : Hp} {Q : VK} (h : t σ H fun vs H1 => MakeKD C sp dvs vs H1 Q E) : tMake C sp dvs E t σ H Q := h
/-- xs * k -/
theorem w_rep {l : Addr} {k : Int} {xs : List V} {H : Hp} {Q : VK} (h : H l = some (.lst xs)) (h1 : -(2 ^ 63) ≤ k) (h2 : k < 2 ^ 63) (h3 : xs.length * k.toNat ≤ sizeLine) (q : ∀ p H', Same H H' → H p = none → H' p = some (.lst (List.replicate k.toNat xs).flatten) → Q (.ref p) H') : rRep (.ref l) (.int k) H Q :=
  ⟨l, k, xs, rfl, rfl, h, h1, h2, h3, fun p hp => q p _ (same_upd hp) hp upd_same⟩
theorem w_lenL {p : Addr} {K : PySem.W.Frag} {xs : List V} {H : Hp} {R : List V → Prop} (h : H p = some (.lst xs)) (q : R xs) : ∃ p' ys, [V.ref p] = [V.ref p'] ∧ (SqL K H p' ys ∨ SqT K H p' ys) ∧ R ys := ⟨p, xs, rfl, .inl (SqL.of h), q⟩
/-- all but what stands at x is as it was -/
def Oth (x : Addr) (H H' : Hp) : Prop := ∀ b o, b ≠ x → H b = some o → H' b = some o
theorem Oth.refl {x : Addr} {H : Hp} : Oth x H H := fun _ _ _ e => e
theorem Oth.same {x : Addr} {H H1 H2 : Hp} (a : Oth x H H1) (s : Same H1 H2) : Oth x H H2 := fun b o hb e => s b o (a b o hb e)
theorem Oth.put {x : Addr} {H H1 : Hp} {o : HO} (a : Oth x H H1) : Oth x H (upd H1 x o) := fun b u hb e => by rw [upd_ne hb]; exact a b u hb e
theorem Oth.trans {x : Addr} {H H1 H2 : Hp} (a : Oth x H H1) (b : Oth x H1 H2) : Oth x H H2 := fun c o hc e => b c o hc (a c o hc e)
theorem Same.oth {x : Addr} {H H1 : Hp} (s : Same H H1) : Oth x H H1 := fun b o _ e => s b o e
end Rd

set_option Elab.async false
set_option linter.all false
set_option maxRecDepth 100000
set_option autoImplicit false
set_option maxHeartbeats 4000000
namespace Rd
open PySem PySem.Spec PyProof.Rows PySem.SeqAt L2
/-! bool - bool -/
theorem sub_bools (a b : Bool) : Gives (Builtin.«int.__sub__» ⟨[.bool a, .bool b], []⟩) (.int ((if a = true then (1 : Int) else 0) - if b = true then (1 : Int) else 0)) :=
  .of_wp fun M A E s Q h => by obtain ⟨hp, g, d, tk, os⟩ := s; wp_walk; exact ⟨_, rfl, h⟩
def rSubB : R2 := fun x y H Q => ∃ a b, x = .bl a ∧ y = .bl b ∧ Q (.int ((if a = true then (1 : Int) else 0) - if b = true then (1 : Int) else 0)) H
theorem op_sub_bb {X : Cx} : OpR X (binaryOp .Sub) rSubB := by
  intro pins s σ H x y v u Q I rx ry h
  obtain ⟨a, b, rfl, rfl, q⟩ := h
  cases rx
  cases ry
  exact binaryOp_gives (op := .Sub) (T := "bool") rfl rfl F.fills_bool_sub F.slot_bool_sub F.entry_int_sub (F.args_int_sub_2 _ _) (sub_bools a b) trivial ⟨.int _, H, I.tok _, ⟨_, rfl⟩, q⟩
theorem w_subB {H : Hp} {Q : VK} {a b : Bool} (q : Q (.int ((if a = true then (1 : Int) else 0) - if b = true then (1 : Int) else 0)) H) : rSubB (.bl a) (.bl b) H Q := ⟨a, b, rfl, rfl, q⟩
/-! == of instances without an __eq__ of their own -/
section
variable {prog : Program} {w : World} {A : Around} {E : Value → Shared → Prop} {s : Shared} {K : PySem.W.Frag} {x y C : Addr} {ox oy : Obj} {od od' : Option Obj}
theorem call_objEqO {Q : Value → Shared → Prop} (X : K.In s.heap) (I : PySem.W.InstAt s.heap x ox C od) (hm : PySem.W.mroIn K C (.type "object") = some true) (hx : s.heap.get? x = some ox) (hy : s.heap.get? y = some oy) (hxy : x ≠ y) (hnt : ox.cls ≠ .type "tuple") (hq : Q .notImplemented s) :
    wpAny (model prog w) A (call (.builtin "object.__eq__") [.ref x, .ref y]) Q E s :=
  wpAny_call (codeAny_call_builtin F.cmp_object.eq.plain F.cmpEntry_eq (PySem.W.check_slot F.cmpKind_eq F.cmpSplit_eq (I.type.andThen (PySem.W.looks_mroIn X hm)) (F.cmpArgs_eq _ _) (objEq_entry_other hxy hx hy hnt hq)))
theorem call_objEqS {Q : Value → Shared → Prop} (X : K.In s.heap) (I : PySem.W.InstAt s.heap x ox C od) (hm : PySem.W.mroIn K C (.type "object") = some true) (hq : Q (.bool true) s) :
    wpAny (model prog w) A (call (.builtin "object.__eq__") [.ref x, .ref x]) Q E s :=
  wpAny_call (codeAny_call_builtin F.cmp_object.eq.plain F.cmpEntry_eq (PySem.W.check_slot F.cmpKind_eq F.cmpSplit_eq (I.type.andThen (PySem.W.looks_mroIn X hm)) (F.cmpArgs_eq _ _) (objEq_entry_same hq)))
theorem rc_other (hu : A.units < cLine) (X : K.In s.heap) (I : PySem.W.InstAt s.heap x ox C od) (I' : PySem.W.InstAt s.heap y oy C od') (hx : s.heap.get? x = some ox) (hy : s.heap.get? y = some oy) (hnt : ox.cls ≠ .type "tuple") (hnt' : oy.cls ≠ .type "tuple") (hxy : x ≠ y)
    (hm : PySem.W.mroIn K C (.type "object") = some true) (hs : PySem.W.findIn K (.ref C) "__eq__" = some (some (.builtin "object.__eq__"))) : RcAt A s (.ref x) (.ref y) false := fun prog w E Q h => by
  have one : wpAny (model prog w) A (tryCompare (.ref x) "__eq__" (.ref y)) (fun r s' => r = none ∧ s' = s) E s := by
    unfold tryCompare
    exact wpAny_bind (HN.ifBound_objEq X I hs (call_objEqO X I hm hx hy hxy hnt (wpAny_pure ⟨rfl, rfl⟩)))
  have two : wpAny (model prog w) A (tryCompare (.ref y) "__eq__" (.ref x)) (fun r s' => r = none ∧ s' = s) E s := by
    unfold tryCompare
    exact wpAny_bind (HN.ifBound_objEq X I' hs (call_objEqO X I' hm hy hx hxy.symm hnt' (wpAny_pure ⟨rfl, rfl⟩)))
  simp only [richCompare, cmpInfo_Eq, oneThing_ref]
  refine wpAny_holding (wpAny_bind (wpAny_cRoomFor hu ?_))
  refine wpAny_bind (I.type.here ?_)
  refine wpAny_bind (I'.type.here ?_)
  rw [if_neg (by simp)]
  refine wpAny_bind (wpAny_pure ?_)
  simp only [Bool.false_eq_true, if_false, Bool.not_false, if_true]
  refine wpAny_bind (m := tryCompare (.ref x) _ (.ref y)) (wpAny_mono one (fun r s1 z => ?_) fun _ _ e => e)
  obtain ⟨z1, z2⟩ := z
  subst z1
  subst z2
  refine wpAny_bind (m := tryCompare (.ref y) _ (.ref x)) (wpAny_mono two (fun r s2 z => ?_) fun _ _ e => e)
  obtain ⟨z1, z2⟩ := z
  subst z1
  subst z2
  exact wpAny_bind (wpAny_rule (wpAny_bind (wpAny_isSame_ref_other hxy hx hy hnt (wpAny_pure h))))
theorem rc_self (hu : A.units < cLine) (X : K.In s.heap) (I : PySem.W.InstAt s.heap x ox C od) (hm : PySem.W.mroIn K C (.type "object") = some true) (hs : PySem.W.findIn K (.ref C) "__eq__" = some (some (.builtin "object.__eq__"))) : RcAt A s (.ref x) (.ref x) true := fun prog w E Q h => by
  have one : wpAny (model prog w) A (tryCompare (.ref x) "__eq__" (.ref x)) (fun r s' => r = some (.bool true) ∧ s' = s) E s := by
    unfold tryCompare
    exact wpAny_bind (HN.ifBound_objEq X I hs (call_objEqS X I hm (wpAny_pure ⟨rfl, rfl⟩)))
  simp only [richCompare, cmpInfo_Eq, oneThing_ref]
  refine wpAny_holding (wpAny_bind (wpAny_cRoomFor hu ?_))
  refine wpAny_bind (I.type.here ?_)
  refine wpAny_bind (I.type.here ?_)
  rw [if_neg (by simp)]
  refine wpAny_bind (wpAny_pure ?_)
  simp only [Bool.false_eq_true, if_false, Bool.not_false, if_true]
  refine wpAny_bind (m := tryCompare (.ref x) _ (.ref x)) (wpAny_mono one (fun r s1 z => ?_) fun _ _ e => e)
  obtain ⟨z1, z2⟩ := z
  subst z1
  subst z2
  exact wpAny_pure h
theorem rc_none2 (hu : A.units < cLine) (X : K.In s.heap) (I : PySem.W.InstAt s.heap x ox C od) (hm : PySem.W.mroIn K C (.type "object") = some true) (hs : PySem.W.findIn K (.ref C) "__eq__" = some (some (.builtin "object.__eq__")))
    (hsub : PySem.W.subIn K (.ref C) (.type "NoneType") = some false) : RcAt A s .none (.ref x) false := fun prog w E Q h => by
  have one : wpAny (model prog w) A (tryCompare (.ref x) "__eq__" .none) (fun r s' => r = none ∧ s' = s) E s := by
    unfold tryCompare
    exact wpAny_bind (HN.ifBound_objEq X I hs (HN.call_objEq X I hm (wpAny_pure ⟨rfl, rfl⟩)))
  have two : wpAny (model prog w) A (tryCompare .none "__eq__" (.ref x)) (fun r s' => r = none ∧ s' = s) E s :=
    wpAny_tryCompare_declines (show s.TypeIs .none "NoneType" from rfl) F.slot_NoneType_eq_refl (call_gives F.slot_NoneType_eq_refl rfl F.entry_NoneType_eq (F.args_NoneType_eq_2 _ _) (NoneType___eq___none_ref_0 x) ⟨rfl, rfl, rfl⟩)
  simp only [richCompare, cmpInfo_Eq]
  refine wpAny_holding (wpAny_bind (wpAny_cRoomFor hu ?_))
  refine wpAny_bind (wpAny_typeOf (show s.TypeIs .none "NoneType" from rfl) ?_)
  refine wpAny_bind (I.type.here ?_)
  rw [if_pos (by simp)]
  refine wpAny_bind ((PySem.W.looks_subIn X hsub).here ?_)
  simp only [Bool.false_eq_true, if_false, Bool.not_false, if_true]
  refine wpAny_bind (m := tryCompare .none _ (.ref x)) (wpAny_mono two (fun r s1 z => ?_) fun _ _ e => e)
  obtain ⟨z1, z2⟩ := z
  subst z1
  subst z2
  refine wpAny_bind (m := tryCompare (.ref x) _ .none) (wpAny_mono one (fun r s2 z => ?_) fun _ _ e => e)
  obtain ⟨z1, z2⟩ := z
  subst z1
  subst z2
  exact wpAny_bind (wpAny_rule (wpAny_bind (wpAny_of_eq (rfl : isSame .none (.ref x) = pure false) (wpAny_pure h))))
end
/-- what the text's class at C must have for the == of object -/
structure ObjC (K : PySem.W.Frag) (C : Addr) : Prop where
  hm : PySem.W.mroIn K C (.type "object") = some true
  hs : PySem.W.findIn K (.ref C) "__eq__" = some (some (.builtin "object.__eq__"))
  hn : PySem.W.subIn K (.ref C) (.type "NoneType") = some false
def InsV (C : Addr) (H : Hp) (x : V) : Prop := ∃ a dx fs, x = .ref a ∧ H a = some (.ins C dx fs)
def rEqO (C : Addr) : R2 := fun x y H Q => (scal x y = true ∨ (InsV C H x ∧ (y = .non ∨ InsV C H y)) ∨ (x = .non ∧ InsV C H y)) ∧ Q (.bl (decide (x = y))) H
theorem op_eqO {X : Cx} {C : Addr} (hu : X.A.units < cLine) (O : ObjC X.K C) : OpR X (compareOp .Eq) (rEqO C) := by
  intro pins s σ H x y v u Q I rx ry h
  obtain ⟨c, q⟩ := h
  rcases c with c | ⟨⟨a, dx, fs, rfl, ha⟩, c⟩ | ⟨rfl, ⟨b, dy, gs, rfl, hb⟩⟩
  · exact op_eq pins s σ H x y v u Q I rx ry ⟨c, q⟩
  · cases rx
    obtain ⟨mA, OA, _⟩ := ins_get I.hok ha
    obtain ⟨od, J, _⟩ := OA.look
    have ga : s.heap.get? a = some (PySem.W.instObj C dx) := OA.obj
    rcases c with rfl | ⟨b, dy, gs, rfl, hb⟩
    · cases ry
      show wpAny (model X.prog X.w) X.A (richCompare .Eq _ _) (EP X pins σ Q) X.xe s
      refine HN.rc_none hu I.kIn J O.hm O.hs X.prog X.w X.xe _ ⟨.bl false, H, I, rfl, ?_⟩
      rw [decide_eq_false (fun e => nomatch e)] at q
      exact q
    · cases ry
      obtain ⟨mB, OB, _⟩ := ins_get I.hok hb
      obtain ⟨od', J', _⟩ := OB.look
      have gb : s.heap.get? b = some (PySem.W.instObj C dy) := OB.obj
      show wpAny (model X.prog X.w) X.A (richCompare .Eq _ _) (EP X pins σ Q) X.xe s
      by_cases hab : a = b
      · subst hab
        refine rc_self hu I.kIn J O.hm O.hs X.prog X.w X.xe _ ⟨.bl true, H, I, rfl, ?_⟩
        rw [decide_eq_true rfl] at q
        exact q
      · refine rc_other hu I.kIn J J' ga gb (by intro e; cases e) (by intro e; cases e) hab O.hm O.hs X.prog X.w X.xe _ ⟨.bl false, H, I, rfl, ?_⟩
        rw [decide_eq_false (fun e => hab (V.ref.inj e))] at q
        exact q
  · cases rx
    cases ry
    obtain ⟨mB, OB, _⟩ := ins_get I.hok hb
    obtain ⟨od', J', _⟩ := OB.look
    show wpAny (model X.prog X.w) X.A (richCompare .Eq _ _) (EP X pins σ Q) X.xe s
    refine rc_none2 hu I.kIn J' O.hm O.hs O.hn X.prog X.w X.xe _ ⟨.bl false, H, I, rfl, ?_⟩
    rw [decide_eq_false (fun e => nomatch e)] at q
    exact q
end Rd

set_option Elab.async false
set_option linter.all false
set_option maxRecDepth 100000
set_option autoImplicit false
set_option maxHeartbeats 4000000
namespace Rd
open PySem PySem.Spec PyProof.Rows L2
section
variable {σ : L2.St} {H : Hp} {Q : VK} {K : PySem.W.Frag}
theorem w_int1 {R : Int → Prop} {S : Bool → Prop} {i : Int} (q : R i) : (∃ i', [V.int i] = [V.int i'] ∧ R i') ∨ (∃ k, [V.int i] = [V.bl k] ∧ S k) := .inl ⟨i, rfl, q⟩
theorem w_intB {R : Int → Prop} {S : Bool → Prop} {k : Bool} (q : S k) : (∃ i', [V.bl k] = [V.int i'] ∧ R i') ∨ (∃ k', [V.bl k] = [V.bl k'] ∧ S k') := .inr ⟨k, rfl, q⟩
theorem w_gsub {to ti : TE} {t : TSet} {v : V} {Q : L2.St → Hp → Prop} (h : to σ H fun o H1 => ti σ H1 fun i H2 => t o i v H2 fun H3 => Q σ H3) : gSub to ti t v σ H Q := h
theorem w_setL {p : Addr} {xs : List V} {k : Int} {j : Nat} {v : V} {Q : Hp → Prop} (h : H p = some (.lst xs)) (hj : ixN xs.length k = some j) (q : Q (upd H p (.lst (xs.set j v)))) : rSetL (.ref p) (.int k) v H Q := ⟨p, xs, k, j, rfl, rfl, h, hj, q⟩
theorem w_for {wi : TI} {g : TG} {tb : TS} {D : Ends} (h : wi σ H fun J H1 => ∃ W : Nat → Nat → L2.St → Hp → Prop, (∃ m, W 0 m σ H1) ∧ ∀ i m σ H, W i m σ H →
  (J.stop i H ∧ D.nx σ H) ∨ (J.go i H ∧ ∃ N : L2.St → Hp → Prop, (∀ σ' H', N σ' H' → ∃ m', m' < m ∧ W (i + 1) m' σ' H') ∧ ∀ x H', J.yld i H x H' → g x σ H' fun σ2 H2 => tb { D with nx := N, ct := N, bk := D.nx } σ2 H2)) : tFor wi g tb D σ H := h
def Rng1K (R : It → Hp → Prop) (j : Int) (H : Hp) : Prop := -(2 ^ 62) ≤ j ∧ j < 2 ^ 62 ∧ R (Itr 0 j.toNat) H
theorem w_rng1 {ta : TA} {R : It → Hp → Prop} (h : ta σ H fun vs H1 => ∃ j : Int, vs = [.int j] ∧ -(2 ^ 62) ≤ j ∧ j < 2 ^ 62 ∧ R (Itr 0 j.toNat) H1) : iRng1 ta σ H R := h
theorem w_iList {tl : TE} {R : It → Hp → Prop} (h : tl σ H fun x H1 => ∃ a, x = .ref a ∧ (∃ xs, SqL K H1 a xs) ∧ R (Itl K a) H1) : iList K tl σ H R := h
theorem w_iTup {tl : TE} {R : It → Hp → Prop} (h : tl σ H fun x H1 => ∃ a, x = .ref a ∧ (∃ xs, SqT K H1 a xs) ∧ R (Itt K a) H1) : iTup K tl σ H R := h
theorem w_rng1I {R : Int → Prop} {j : Int} (h1 : -(2 ^ 62) ≤ j) (h2 : j < 2 ^ 62) (q : R j) : ∃ j' : Int, [V.int j] = [V.int j'] ∧ -(2 ^ 62) ≤ j' ∧ j' < 2 ^ 62 ∧ R j' := ⟨j, rfl, h1, h2, q⟩
theorem w_iListI {R : Addr → Prop} {a : Addr} {xs : List V} (h : H a = some (.lst xs)) (q : R a) : ∃ a', V.ref a = .ref a' ∧ (∃ xs, SqL K H a' xs) ∧ R a' := ⟨a, rfl, ⟨xs, SqL.of h⟩, q⟩
theorem w_iTupI {R : Addr → Prop} {a : Addr} {xs : List V} (h : H a = some (.tup xs)) (q : R a) : ∃ a', V.ref a = .ref a' ∧ (∃ xs, SqT K H a' xs) ∧ R a' := ⟨a, rfl, ⟨xs, SqT.of h⟩, q⟩
/-- xs + ys, lists -/
theorem w_cat {l b : Addr} {xs zs : List V} (h : H l = some (.lst xs)) (h' : H b = some (.lst zs)) (hz : xs.length + zs.length ≤ sizeLine) (q : ∀ p H', Same H H' → H p = none → H' p = some (.lst (xs ++ zs)) → Q (.ref p) H') : rCat (.ref l) (.ref b) H Q :=
  ⟨l, b, xs, zs, rfl, rfl, h, h', hz, fun p hp => q p _ (same_upd hp) hp upd_same⟩
end
theorem cmulW {i j : Int} (h : (Builtin.Int.intBits i : Int) + (Builtin.Int.intBits j : Int) ≤ 134217728) : CMulX i j := h
theorem cpow {i j : Int} (h0 : 0 ≤ j) (h1 : j ≤ 1000000) (h2 : i.natAbs < 2 ^ 64) : CPow i j := ⟨h0, h1, h2⟩
end Rd

set_option Elab.async false
set_option linter.all false
set_option maxRecDepth 100000
set_option autoImplicit false
set_option maxHeartbeats 4000000
/-! Own classes of exceptions over ArithmeticError, whose __init__ calls the base's and stores. -/
namespace Rd
open PySem PySem.Spec PyProof.Rows L2
abbrev aeMro : List Value := [.type "ArithmeticError", .type "Exception", .type "BaseException", .type "object"]
/-- what the text's class at C must have -/
structure AexC (K : PySem.W.Frag) (C : Addr) : Prop where
  made : PySem.W.excInitIn K C aeMro "ArithmeticError.__new__" = true
  over : PySem.W.excOver K C aeMro = true
  hdC : PySem.W.hasDictIn K C = true
  sa : PySem.W.findIn K (.ref C) "__setattr__" = some (some (.builtin "object.__setattr__"))
  exC : PySem.W.subIn K (.ref C) (.type "BaseException") = some true
  tyC : PySem.W.typeIn K (.ref C) = some (.type "type")
  kC : PySem.W.keepIn K (.ref C) = true
theorem aex_taker {K : PySem.W.Frag} {C : Addr} {f : Str} (n : PySem.W.findIn K (.ref C) f = some none) : PySem.W.takerIn K C f = some none := NoAttr.taker n
section
variable {X : Cx} {pins : List (Addr × Obj)} {σ : L2.St} {H : Hp} {s : Shared} {a C dx : Addr} {f : Str} {y : V} {u : Value} {fs : List (Str × V)} {Q : Unit → Shared → Prop} {E : Value → Shared → Prop} {A : Around}
theorem ast_new (T : AexC X.K C) (I : Inv X pins σ H s) (e : H a = some (exo a C none)) (hno : PySem.W.findIn X.K (.ref C) f = some none) (ry : RelV y u)
    (h : ∀ dx s', H dx = none → dx ≠ a → Inv X pins σ (upd (upd H a (exo a C (some dx))) dx (exd dx [(f, y)])) s' → Q () s') : wpAny (model X.prog X.w) A (setAttr (.ref a) f u) Q E s := by
  obtain ⟨t1, ho⟩ := exo_at I.hok e
  obtain ⟨cd, hc, hd'⟩ := PySem.W.any_some T.hdC
  obtain ⟨hp, g, d, t, os⟩ := s
  have an : a ≠ hp.objs.size := Nat.ne_of_lt (Heap.lt_size ho)
  refine PySem.W.set_plain I.kIn (ox := PySem.W.excObj C t1 none .none) (od := none) ⟨ho, rfl, rfl, trivial⟩ T.sa (PySem.W.osa_openX (od := none) PySem.F.store_ArithmeticError I.kIn ⟨ho, rfl, rfl, trivial⟩ T.over (aex_taker hno) fun b => ?_)
  refine wpAny_bind (wpAny_pure (wpAny_bind (PySem.W.instanceDict_exc (c2 := Value.none) ho (PySem.W.looks_clsIn I.kIn hc) hd' ?_)))
  refine PySem.HandSPX.store_in_new (dx := hp.objs.size) ?_ fun h' tk' hn hs => ?_
  · exact ⟨_, #[], _, (Heap.get?_update_ne _ _ _ _ an.symm).trans (Heap.get?_push_at rfl rfl), rfl, fun e he => absurd he (by simp), fun _ => rfl⟩
  · have hnd : H hp.objs.size = none := I.hok.fresh (Nat.le_refl _)
    have h1a : (hp.update a fun o => { o with dict := some hp.objs.size }).get? a = some (PySem.W.excObj C t1 (some hp.objs.size) .none) := Heap.get?_update_self _ ho rfl
    have J1 := I.write (t' := tk') (x := a) (e := a) (o := exo a C (some hp.objs.size)) (h' := hp.update a fun o => { o with dict := some hp.objs.size }) (by rw [e]; exact True.intro) (.inl rfl) (fun b o hb q => (Heap.get?_update_ne _ _ _ _ hb).trans q) ⟨_, h1a⟩ (exo_ok h1a)
    refine h hp.objs.size _ hnd an.symm (J1.laid (t' := tk') (a := hp.objs.size) (o := exd hp.objs.size [(f, y)]) (h' := h') (fun b o q => ?_) (by simp) (exd_ok hn (relO_put (fs := []) ry fun g => True.intro)))
    by_cases hb : b = a
    · subst hb
      refine (hs.2 _ an).trans ((Heap.get?_update_self _ (Heap.get?_push_of_some _ ho) rfl).trans ?_)
      exact h1a.symm.trans q
    · have q0 : hp.get? b = some o := (Heap.get?_update_ne _ _ _ _ hb).symm.trans q
      exact (hs.2 b (Nat.ne_of_lt (Heap.lt_size q0))).trans ((Heap.get?_update_ne _ _ _ _ hb).trans (Heap.get?_push_of_some _ q0))
theorem ast_old (T : AexC X.K C) (I : Inv X pins σ H s) (e : H a = some (exo a C (some dx))) (ed : H dx = some (exd dx fs)) (hl : fs.length ≤ 900) (hno : PySem.W.findIn X.K (.ref C) f = some none) (ry : RelV y u)
    (h : ∀ s', Inv X pins σ (upd H dx (exd dx ((f, y) :: fs))) s' → Q () s') : wpAny (model X.prog X.w) A (setAttr (.ref a) f u) Q E s := by
  obtain ⟨t1, ho⟩ := exo_at I.hok e
  obtain ⟨mA, hns, rel⟩ := exd_at I.hok ed
  have hw := within_of rel
  obtain ⟨cd, hc, hd'⟩ := PySem.W.any_some T.hdC
  obtain ⟨hp, g, d, t, os⟩ := s
  obtain ⟨oD, _, _, hoD, _, _⟩ := hns.count hw
  refine PySem.W.set_plain I.kIn (ox := PySem.W.excObj C t1 (some dx) .none) (od := some oD) ⟨ho, rfl, rfl, hoD⟩ T.sa (PySem.W.osa_openX (od := some oD) PySem.F.store_ArithmeticError I.kIn ⟨ho, rfl, rfl, hoD⟩ T.over (aex_taker hno) fun b => ?_)
  refine wpAny_bind (wpAny_pure (wpAny_bind (wpAny_bind (wpAny_loadPart ho (wpAny_bind ((PySem.W.looks_clsIn I.kIn hc).at ?_))))))
  rw [hd']
  refine wpAny_pure (a := some dx) (PySem.OEX.store_in_old hns hw (by rw [List.length_map]; omega) fun h' tk' hn hs => ?_)
  have hd : ∃ o, h'.get? dx = some o := by
    obtain ⟨o, _, _, e', _⟩ := hn
    exact ⟨o, e'⟩
  exact h _ (I.write (t' := tk') (x := dx) (e := dx) (o := exd dx ((f, y) :: fs)) (by rw [ed]; exact True.intro) (.inl rfl) (fun b o hb q => (hs.2 b hb).trans q) hd (exd_ok hn (relO_put ry rel)))
/-- the base's __init__: nothing of it is told -/
theorem ainit_ok {us : List Value} {Q : Value → Shared → Prop} (T : AexC X.K C) (I : Inv X pins σ H s) (e : H a = some (exo a C none)) (hl : us.length ≤ sizeLine) (h : ∀ s', Inv X pins σ H s' → Q .none s') :
    wpAny (model X.prog X.w) A (call (.builtin "ArithmeticError.__init__") (.ref a :: us)) Q E s := by
  obtain ⟨nm, N, q, bs, bm, hdct, sn, sub, ab, col, dd, k0, k1, k2, k3, k5, hC, hT⟩ := PySem.W.excInit_of I.kIn T.made
  obtain ⟨t1, ho⟩ := exo_at I.hok e
  obtain ⟨hp, g, d, t, os⟩ := s
  refine wpAny_call (PySem.HandSPX.init_base F.excBase_ArithmeticError hT hC ho hl fun h' t2 k hx => ?_)
  have J := I.write (t' := t) (x := a) (e := a) (o := exo a C none) (by rw [e]; exact True.intro) (.inl rfl) k ⟨_, hx⟩ (exo_ok hx)
  rw [show upd H a (exo a C none) = H from funext fun b => by by_cases hb : b = a <;> simp [upd, hb, e]] at J
  exact h _ J
end
end Rd
namespace Rd
open PySem PySem.Spec PyProof.Rows L2
theorem typ_AE : typeOf (.type "ArithmeticError") = pure (.type "type") := by kernel_rfl
/-- ArithmeticError.__init__(self, ..) -/
def tAI (K : PySem.W.Frag) (ta : TA) : TE := fun σ H Q => ta σ H fun vs H1 => ∃ (a C : Addr) (ws : List V), vs = .ref a :: ws ∧ ws.length ≤ 1000 ∧ AexC K C ∧ H1 a = some (exo a C none) ∧ Q .non H1
/-- self.f = e, self an exception that is being made -/
def tAst (K : PySem.W.Frag) (f : Str) (to te : TE) : TS := fun D σ H => te σ H fun y H1 => to σ H1 fun x H2 => ∃ a C : Addr, x = .ref a ∧ AexC K C ∧ PySem.W.findIn K (.ref C) f = some none ∧
  ((H2 a = some (exo a C none) ∧ ∀ dx, H2 dx = none → dx ≠ a → D.nx σ (upd (upd H2 a (exo a C (some dx))) dx (exd dx [(f, y)]))) ∨
    ∃ (dx : Addr) (fs : List (Str × V)), H2 a = some (exo a C (some dx)) ∧ H2 dx = some (exd dx fs) ∧ fs.length ≤ 900 ∧ D.nx σ (upd H2 dx (exd dx ((f, y) :: fs))))
section
variable {X : Cx} {o e : Expr} {es : List Expr} {to te : TE} {ta : TA} {f : Str} {p p' p1 p2 pos : Pos}
theorem pe_ainit {pl : Sem Bool} (hg : Gl X "ArithmeticError") (hm : X.mg "ArithmeticError" = none) (vV : PySem.W.findCls X.K (.type "ArithmeticError") (.type "type") "__init__" = some (.val (.builtin "ArithmeticError.__init__"))) (ha : PA X (e :: es) ta)
    (hc : eval (.Call (.Attribute (.Name "ArithmeticError" p1) "__init__" p2) (e :: es) [] pos) X.env = (do
      let ov ← eval (.Name "ArithmeticError" p1) X.env
      standAt p2.atName
      let (f, first) ← holding [ov] (getMethod ov "__init__" pl)
      callWith pos f first (backTo pos (starEach (e :: es) X.env)) (backToKw pos (keywordEach [] X.env))) := by rfl)
    (he : starEach (e :: es) X.env = (false, eval e X.env) :: starEach es X.env := by rfl) (hpl : (backTo pos (starEach es X.env)).any (·.1) = false := by rfl) :
    PE X (.Call (.Attribute (.Name "ArithmeticError" p1) "__init__" p2) (e :: es) [] pos) (tAI X.K ta) := by
  refine ⟨fun pins s σ H Q I h => PySem.W.methodCall_KW (ld_blt I hg hm PyProof.Rows.Boot.«ArithmeticError» ?_ (by decide) (by decide)) hc⟩
  obtain ⟨m, fr⟩ := I.fr
  refine PySem.W.method_type fr I.ok.mod.kin typ_AE (by decide +kernel) vV (by decide +kernel) ?_
  refine PyProof.Rows.callWith_method1 (thn (ha.run pos pins _ σ H _ (I.tok _) h) fun us s1 ⟨vs, H1, I1, r1, a, C, ws, ev, hl, T, ea, q⟩ => ?_) he hpl
  subst ev
  cases r1 with
  | @cons _ u0 _ ur ra rw' =>
    obtain rfl : u0 = Value.ref a := ra
    exact ainit_ok T I1 ea (by rw [← Paired.length rw', sizeLine_eq]; omega) fun s' J => ⟨.non, H1, J, rfl, q⟩
theorem ps_ast (ho : PE X o to) (he : PE X e te) (hs : swapsWith e (some (.Attribute o f p')) pos.line X.env = pure false := by rfl) : PS X (.Assign [.Attribute o f p'] e pos) (tAst X.K f to te) := by
  refine ⟨fun pins s σ H D I h => plainObj_wpAny_Assign_Attribute (thn (he.run pins s σ H _ I h) fun v s1 ⟨y, H1, I1, r1, q1⟩ => thn (ho.run pins s1 σ H1 _ I1 q1) fun u s2 ⟨x, H2, I2, r2, a, C, ex, T, hno, q⟩ => ?_) hs⟩
  subst ex
  obtain rfl : u = Value.ref a := r2
  rcases q with ⟨ea, q⟩ | ⟨dx, fs, ea, ed, hl, q⟩
  · exact ast_new T I2 ea hno r1 fun dx s' n ne J => ⟨σ, _, J, q dx n ne⟩
  · exact ast_old T I2 ea ed hl hno r1 fun s' J => ⟨σ, _, J, q⟩
/-- C(e, ..), C over ArithmeticError with its own __init__ -/
theorem pmk_aex {CX : CXT} {x : Str} {C fI : Addr} {k : Nat} {fd : FuncData} {ps : List Str} {sp : Sp} {ds : List Value} {dvs : List V} (T : AexC X.K C) (iC : PySem.W.findIn X.K (.ref C) "__init__" = some (some (.ref fI))) (tI : PySem.W.typeIn X.K (.ref fI) = some (.type "function"))
    (F1 : FnOk X.prog X.w X.K X.mg X.base CX k fI fd ps sp) (hr : Room (k + 1) X.A) (hb : Binds X.K fd ps ds) (hd : Vals dvs ds) (hx : Passes CX X (fun _ _ _ => False)) (hg : Gl X x) (hm : X.mg x = some (.ref C)) (ha : PA X (e :: es) ta)
    (hdb : (x == ("__debug__" : Str)) = false := by decide) (he : starEach (e :: es) X.env = (false, eval e X.env) :: starEach es X.env := by rfl) (hpl : (backTo pos (starEach es X.env)).any (·.1) = false := by rfl) :
    PMk X (.Call (.Name x p) (e :: es) [] pos) (tMkO C sp dvs ta) := by
  intro pins s σ H Q I h
  refine wpAny_Call_Name_kw (ld_glob I hg hm (PySem.W.callWith_K (h₀ := X.base) I.ok.mod.kin T.kC (thn (ha.run pos pins s σ H _ I h) fun us s1 ⟨vs, H1, I1, r1, hz, q1⟩ => ⟨I1.kIn, ?_⟩) he hpl) hdb)
  obtain ⟨nm, N, q, bs, bm, hdct, sn, sub, ab, col, dd, k0, k1, k2, k3, k5, hC, hT⟩ := PySem.W.excInit_of I1.kIn T.made
  show wpAny _ _ (call (.ref C) us) _ _ _
  obtain ⟨hp, g, dr, tk, os⟩ := s1
  have hsz : hp.objs.size ≤ hp.objs.size + 1 := Nat.le_succ _
  have hq := q1 (hp.objs.size + 1) (I1.hok.fresh hsz)
  have kk : ∀ b o, hp.get? b = some o → ((hp.push (PySem.W.kdv_tup us)).push (PySem.HandSPX.excO C hp.objs.size)).get? b = some o := fun b o z => Heap.get?_push_of_some _ (Heap.get?_push_of_some _ z)
  have I2 := I1.laid (t' := tk) (a := hp.objs.size + 1) (o := exo (hp.objs.size + 1) C none) (h' := (hp.push (PySem.W.kdv_tup us)).push (PySem.HandSPX.excO C hp.objs.size)) kk hsz (exo_ok (by heap_get))
  have r2 : Vals (V.ref (hp.objs.size + 1) :: (vs ++ dvs)) (Value.ref (hp.objs.size + 1) :: (us ++ ds)) := .cons rfl (r1.append hd)
  have hl : (Value.ref (hp.objs.size + 1) :: us ++ ds).length = ps.length := (r2.length.symm.trans (F1.len _ _ _ _ hq))
  refine wpAny_call (PySem.HandSPX.call_own F.excBase_ArithmeticError hT hC (PySem.W.looks_findIn I1.kIn iC) (fun self => PySem.W.bind_fn I1.kIn self tI) (by rw [← Paired.length r1, sizeLine_eq]; omega)
    (codeAny_mono (F1.run _ X.stack _ _ ⟨Value.ref (hp.objs.size + 1) :: us, []⟩ (Value.ref (hp.objs.size + 1) :: (us ++ ds)) _ _ (fun _ _ _ => False) (hr.make C us []) (I2.env0.make C us []) (hb _ (Value.ref (hp.objs.size + 1) :: us) I2.kIn hl) r2 hq) fun r s' hq' => ?_))
  match r, hq' with
  | .error er, hq' => exact hx pins σ _ _ er s' I2 hq'
  | .ok (.ret u), hq' =>
    obtain ⟨v, H2, os2, bare2, un2, hok2, rv, ev, d, fs, ea, ed, hd1, q2⟩ := hq'
    subst ev
    obtain ⟨h2, g2, d2, t2, os'⟩ := s'
    exact ⟨rv, mk_end (raises_own T.exC T.tyC) I1 hsz kk un2 hok2 os2 bare2 ea ed hd1 q2⟩
  | .ok .next, hq' => exact False.elim hq'
  | .ok .brk, hq' => exact False.elim hq'
  | .ok .cont, hq' => exact False.elim hq'
end
end Rd

set_option Elab.async false
set_option linter.all false
set_option maxRecDepth 100000
set_option autoImplicit false
set_option maxHeartbeats 4000000
/-! Thrown(value): its own __init__, raised, caught, its field read. -/
namespace Rd
open PySem PySem.Spec PyProof.Rows L2
/-- a statement, an expression that is never reached -/
theorem pe_never {X : Cx} {e : Expr} : PE X e (fun _ _ _ => False) := ⟨fun _ _ _ _ _ _ h => h.elim⟩
def thrFs (v : V) : List (Str × V) := [("level", .int 1), ("value", v)]
def spThr (C : Addr) : Sp := fun vs H Q _ => ∃ x v, vs = [.ref x, v, .int 1] ∧ H x = some (exo x C none) ∧
  ∀ d, H d = none → d ≠ x → Q .non (upd (upd (upd H x (exo x C (some d))) d (exd d [("value", v)])) d (exd d (thrFs v)))
/-- the class Thrown -/
structure KnTh (P : Program) (w : World) (K : PySem.W.Frag) (mg : Str → Option Value) (base : Heap) (C : Addr) : Prop where
  ex : ∃ f fd ds, mg "Thrown" = some (.ref C) ∧ AexC K C ∧ PySem.W.findIn K (.ref C) "__init__" = some (some (.ref f)) ∧ PySem.W.typeIn K (.ref f) = some (.type "function") ∧ Vals [V.int 1] ds ∧
    Binds K fd ["self", "value", "level"] ds ∧ FnOk P w K mg base CX0 1 f fd ["self", "value", "level"] (spThr C)
def tThr (C : Addr) (ta : TA) (W : WX) : TS := fun _ σ H => tMkO C (spThr C) [.int 1] ta σ H fun cls d H' => W cls d σ H'
section
variable {X : Cx} {C : Addr} {j : Nat} {a : Expr} {es : List Expr} {ta : TA} {p pos pos2 : Pos} {W : WX} {x : Str} {ps : List Str} {sp : Sp} {k : Nat}
theorem ps_thr (hc : X.calm = true) (h : KnTh X.prog X.w X.K X.mg X.base C) (hr : Room j X.A) (tk : Takes X W) (ha : PA X [a] ta) (hj : 2 ≤ j := by decide) (hg : Gl X "Thrown" := by rfl)
    (he : starEach (a :: []) X.env = (false, eval a X.env) :: starEach [] X.env := by rfl) (hpl : (backTo pos (starEach [] X.env)).any (·.1) = false := by rfl) :
    PS X (.Raise (some (.Call (.Name "Thrown" p) [a] [] pos)) none pos2) (tThr C ta W) := by
  obtain ⟨f, fd, ds, m, T, iC, tI, hd, hb, F⟩ := h.ex
  exact ps_raise hc tk (pmk_aex T iC tI F (hr.mono hj) hb hd pass0 hg m ha (by decide) he hpl)
/-- f(e, ..), f may raise -/
theorem pkX (h : Kn X.prog X.w X.K X.mg X.base (L2.CX X.prog X.w) k x ps sp) (hr : Room j X.A) (tk : Takes X W) (ha : PA X (a :: es) ta) (hj : k ≤ j := by decide) (hg : Gl X x := by rfl) (hdb : (x == ("__debug__" : Str)) = false := by decide)
    (he : starEach (a :: es) X.env = (false, eval a X.env) :: starEach es X.env := by rfl) (hpl : (backTo pos (starEach es X.env)).any (·.1) = false := by rfl) : PE X (.Call (.Name x p) (a :: es) [] pos) (tCallS sp (WE W) ta) := by
  obtain ⟨f, fd, m, kp, b, F⟩ := h.ex
  exact pe_callS F (hr.mono hj) hg m kp b (fun σ => passAt tk σ) ha hdb he hpl
end
section
variable {σ : L2.St} {H : Hp} {C : Addr} {W : WX} {D : Ends}
def MkOK (C : Addr) (sp : Sp) (dvs vs : List V) (H1 : Hp) (Q : XK) : Prop := vs.length ≤ 1000 ∧ ∀ a, H1 a = none → sp (.ref a :: (vs ++ dvs)) (upd H1 a (exo a C none))
  (fun v H2 => v = .non ∧ ∃ (d : Addr) (fs : List (Str × V)), H2 a = some (exo a C (some d)) ∧ H2 d = some (exd d fs) ∧ H1 d = none ∧ Q (.ref C) (some d) (upd (del H2 a) d (.xd fs))) (fun _ _ _ => False)
theorem w_thr {ta : TA} (h : ta σ H fun vs H1 => MkOK C (spThr C) [.int 1] vs H1 fun cls d H' => W cls d σ H') : tThr C ta W D σ H := h
theorem w_thrI {v : V} {Q : XK} (q : ∀ d H', Same H H' → H d = none → H' d = some (.xd (thrFs v)) → Q (.ref C) (some d) H') : MkOK C (spThr C) [.int 1] [v] H Q := by
  refine ⟨by show 1 ≤ 1000; decide, fun a ha => ⟨a, v, rfl, upd_same, fun d hd hda => ?_⟩⟩
  rw [upd_ne hda] at hd
  refine ⟨rfl, d, thrFs v, ?_, upd_same, hd, q d _ (fun b o e => ?_) hd upd_same⟩
  · rw [upd_ne (Ne.symm hda), upd_ne (Ne.symm hda), upd_same]
  · have ba : b ≠ a := ne_of_none e ha
    have bd : b ≠ d := ne_of_none e hd
    rw [upd_ne bd, del_ne ba, upd_ne bd, upd_ne bd, upd_ne ba, upd_ne ba]
    exact e
theorem w_callS {sp : Sp} {t : TA} {E : L2.St → XK} {Q : VK} (h : t σ H fun vs H1 => sp vs H1 Q (E σ)) : tCallS sp E t σ H Q := h
end
end Rd

set_option Elab.async false
set_option linter.all false
set_option maxRecDepth 100000
set_option autoImplicit false
set_option maxHeartbeats 4000000
/-! a, b, .. = l, l a list -/
namespace Rd
open PySem PySem.Spec PyProof.Rows L2
section
variable {prog : Program} {w : World} {A : Around} {E : Value → Shared → Prop}
theorem draw_lst {it l : Addr} {xs : Array Value} (ne : l ≠ it) (n : Nat) : ∀ (i : Nat) (s : Shared) (Q : List Value → Shared → Prop), s.heap.IsListIter it l i → s.heap.IsList l xs → i + n ≤ xs.size →
    (∀ h', h'.IsListIter it l (i + n) → Heap.SameBut it s.heap h' → Q ((xs.toList.drop i).take n) { s with heap := h' }) → wpAny (model prog w) A (draw (.ref it) n) Q E s := by
  induction n with
  | zero =>
    intro i s Q hi hl _ q
    exact wpAny_pure (a := []) (by simpa using q s.heap hi (Heap.SameBut.refl ..))
  | succ n ih =>
    intro i s Q hi hl hz q
    have lt : i < xs.size := by omega
    refine wpAny_bind (m := pyNext (.ref it)) (wpAny_pyNext_list_item hi hl (x := xs[i]) (by simp [lt]) fun h1 i1 s1 => wpAny_bind (wpAny_holding (ih (i + 1) _ _ i1 (hl.extBut s1.extBut ne) (by omega) fun h2 i2 s2 => wpAny_pure ?_)))
    have e : xs.toList.drop i = xs[i] :: xs.toList.drop (i + 1) := by simp [List.drop_eq_getElem_cons, lt]
    have r := q h2 (by rw [show i + (n + 1) = i + 1 + n by omega]; exact i2) (s1.trans s2)
    rw [e, List.take_succ_cons] at r
    exact r
theorem unpack_lst {s : Shared} {l : Addr} {xs : Array Value} {ts : List (Bool × (Value → Sem Unit))} {Q : Unit → Shared → Prop} (hh : A.handled = none) (hl : s.heap.IsList l xs) (hn : ts.length = xs.size) (hs : ts.findIdx? (·.1) = none)
    (q : ∀ h', Heap.ExtBut s.heap.objs.size s.heap h' → wpAny (model prog w) A (assignInOrder (ts.map (·.2)) xs.toList) Q E { s with heap := h' }) : wpAny (model prog w) A (unpack (.ref l) ts) Q E s := by
  have ne : l ≠ s.heap.objs.size := by
    obtain ⟨o, ho, _⟩ := hl
    exact Nat.ne_of_lt (Heap.lt_size ho)
  unfold unpack unpackItems notIterableAtAll
  rw [hn, hs]
  refine wpAny_bind (wpAny_holding (wpAny_bind (wpAny_bind (wpAny_specialOf hl.typeIs slot_list_iter.lookup (wpAny_pure ?_)))))
  rw [if_neg Bool.false_ne_true]
  refine wpAny_bind (wpAny_holding (wpAny_pyIter_list hl ?_))
  refine wpAny_bind (wpAny_holding (draw_lst ne xs.size 0 _ _ ⟨_, Heap.get?_push_size _ rfl, rfl, rfl⟩ (hl.push _) (by omega) fun h1 i1 s1 => ?_))
  rw [List.drop_zero, List.take_of_length_le (by simp), if_neg (by simp)]
  refine wpAny_bind (wpAny_holding (wpAny_pyNext_list_end hh i1 ((hl.push _).extBut s1.extBut ne) (by simp) fun h2 e2 => ?_))
  rw [if_neg (by simp)]
  exact wpAny_pure (q h2 fun b o hb e => e2 b o hb (s1.extBut b o hb (Heap.get?_push_of_some _ e)))
end
section
variable {X : Cx}
/-- targets of a list's items -/
def gLst (K : PySem.W.Frag) (n : Nat) (t : TGs) : TG := fun v σ H Q => ∃ a xs, v = .ref a ∧ SqL K H a xs ∧ xs.length = n ∧ t xs σ H Q
theorem pg_lst {es : List Expr} {k : Nat} {pos : Pos} {t : TGs} {n : Nat} (hc : X.calm = true) (h : PGs X es t) (hn : (assignEach es X.env).length = n := by rfl) (hst : (assignEach es X.env).findIdx? (·.1) = none := by rfl) : PG X (.Tuple es k pos) (gLst X.K n t) := by
  refine ⟨fun pins s σ H v u Q I r ⟨a, xs, e1, hq, hl, hw⟩ => ?_⟩
  subst e1
  cases r
  obtain ⟨its, rv, hp, hz⟩ := I.list hq
  rw [assign_Tuple]
  refine wpAny_bind (wpAny_standAt (unpack_lst (I.ok.hd hc) hp.isList (by simp [hn, ← hl, rv.length]) hst fun h' hx => ?_))
  exact h.run pins _ σ H xs _ Q (I.kept (t' := s.toks) fun b o e => hx b o (Nat.ne_of_lt (Heap.lt_size e)) e) (by simpa using rv) hw
theorem w_glst {K : PySem.W.Frag} {n : Nat} {t : TGs} {a : Addr} {xs : List V} {σ : L2.St} {H : Hp} {Q : L2.St → Hp → Prop} (h : H a = some (.lst xs)) (hn : xs.length = n) (q : t xs σ H Q) : gLst K n t (.ref a) σ H Q := ⟨a, xs, rfl, SqL.of h, hn, q⟩
end
end Rd

set_option Elab.async false
set_option linter.all false
set_option maxRecDepth 100000
set_option autoImplicit false
set_option maxHeartbeats 4000000
namespace Nu
open PySem PySem.Spec PyProof.Rows L2 Rd
def top (i : Nat) : Stmt := PySem.Challenge.pw_walkmade_k08_rounds_of_numbers.main.body.getD i (.Pass ⟨0, 0, 0, 0⟩)
abbrev s_Float_init : Stmt := inClass (top 12) 0
abbrev s_Float_is_finite : Stmt := inClass (top 12) 4
abbrev s_Float_ratio : Stmt := inClass (top 12) 5
abbrev s_is_plain : Stmt := top 13
abbrev s_reduced : Stmt := top 14
abbrev s_fits : Stmt := top 15
abbrev s_sign_of : Stmt := top 16
abbrev s_infinity : Stmt := top 18
abbrev s_nearest : Stmt := top 19
abbrev s_is_number : Stmt := top 20
abbrev s_to_float : Stmt := top 22
abbrev s_order_of : Stmt := top 33
abbrev s_place_of : Stmt := top 34
abbrev s_compare : Stmt := top 35
abbrev s_same : Stmt := top 36
/-! ### floats as data -/
inductive Fl where
  | fin (s t p : Int)
  | inf (s : Int)
  | nan
  deriving DecidableEq
def Fl.s : Fl → Int
  | .fin s _ _ => s
  | .inf s => s
  | .nan => 1
def Fl.t : Fl → V
  | .fin _ t _ => .int t
  | .inf _ => .str "inf"
  | .nan => .str "nan"
def Fl.p : Fl → Int
  | .fin _ _ p => p
  | _ => 0
def flds (s : Int) (t : V) (p : Int) : List (Str × V) := putF "power" (.int p) (putF "top" t (putF "sign" (.int s) []))
theorem ne_st : ¬ ("sign" : Str) = "top" := by decide +kernel
theorem ne_sp : ¬ ("sign" : Str) = "power" := by decide +kernel
theorem ne_tp : ¬ ("top" : Str) = "power" := by decide +kernel
theorem flds_s (s : Int) (t : V) (p : Int) : (flds s t p).lookup ("sign" : Str) = some (.int s) := by
  unfold flds
  rw [lookup_putF, if_neg ne_sp, lookup_putF, if_neg ne_st, lookup_putF, if_pos rfl]
theorem flds_t (s : Int) (t : V) (p : Int) : (flds s t p).lookup ("top" : Str) = some t := by
  unfold flds
  rw [lookup_putF, if_neg ne_tp, lookup_putF, if_pos rfl]
theorem flds_p (s : Int) (t : V) (p : Int) : (flds s t p).lookup ("power" : Str) = some (.int p) := by
  unfold flds
  rw [lookup_putF, if_pos rfl]
theorem flds_no (s : Int) (t : V) (p : Int) {m : Str} (h1 : ¬ m = "sign") (h2 : ¬ m = "top") (h3 : ¬ m = "power") : (flds s t p).lookup m = none := by
  unfold flds
  rw [lookup_putF, if_neg h3, lookup_putF, if_neg h2, lookup_putF, if_neg h1]
  rfl
/-- the float f stands at a -/
def FlAt (C : Addr) (H : Hp) (a : Addr) (f : Fl) : Prop := ∃ dx, H a = some (.ins C dx (flds f.s f.t f.p))
theorem FlAt.same {C : Addr} {H H' : Hp} {a : Addr} {f : Fl} (h : FlAt C H a f) (s : Same H H') : FlAt C H' a f := let ⟨dx, e⟩ := h; ⟨dx, s _ _ e⟩
/-- a float that stands is well made -/
def Fl.ok : Fl → Prop
  | .fin s t p => (s = 1 ∨ s = -1) ∧ 0 ≤ t ∧ t < 9007199254740992 ∧ (t = 0 → p = 0) ∧ (t ≠ 0 → -1074 ≤ p ∧ bits t + p ≤ 1024 ∧ t % 2 = 1)
  | .inf s => s = 1 ∨ s = -1
  | .nan => True
/-! ### what the text has -/
structure ClsTy (K : PySem.W.Frag) (C : Addr) : Prop where
  ha : PySem.W.findIn K (.ref C) "__class__" = some (some (.builtin "object.__class__"))
  hn : PySem.W.specialIn K (.builtin "object.__class__") "__get__" = some (some (.builtin "getset_descriptor.__get__"))
  htk : PySem.W.takesIn K (.builtin "object.__class__") = some true
  hm : PySem.W.mroIn K C (.type "object") = some true
structure All (K : PySem.W.Frag) (mg : Str → Option Value) (CF : Addr) : Prop where
  b_isinstance : mg "isinstance" = none
  b_int : mg "int" = none
  b_str : mg "str" = none
  b_bool : mg "bool" = none
  b_abs : mg "abs" = none
  b_max : mg "max" = none
  b_min : mg "min" = none
  b_divmod : mg "divmod" = none
  b_len : mg "len" = none
  b_range : mg "range" = none
  c_LEAST : ∃ t, mg "LEAST" = some (.int (-9223372036854775808) t)
  c_MOST : ∃ t, mg "MOST" = some (.int 9223372036854775807 t)
  c_ROOM : ∃ t, mg "ROOM" = some (.int 9007199254740992 t)
  c_LOWEST : ∃ t, mg "LOWEST" = some (.int (-1074) t)
  c_TOO_GREAT : ∃ t, mg "TOO_GREAT" = some (.int 1024 t)
  g_Float : mg "Float" = some (.ref CF)
  l_Float : Cls K CF
  y_Float : ClsTy K CF
  n_sign : NoAttr K CF "sign"
  n_top : NoAttr K CF "top"
  n_power : NoAttr K CF "power"
  i_Fint : PySem.W.kitOne K (.ref CF) (.type "int") = some false
  i_Fbool : PySem.W.kitOne K (.ref CF) (.type "bool") = some false
  i_Fstr : PySem.W.kitOne K (.ref CF) (.type "str") = some false
  i_intF : PySem.W.kitOne K (.type "int") (.ref CF) = some false
  i_boolF : PySem.W.kitOne K (.type "bool") (.ref CF) = some false
  i_strF : PySem.W.kitOne K (.type "str") (.ref CF) = some false
  i_nonF : PySem.W.kitOne K (.type "NoneType") (.ref CF) = some false
  x_init : TxC K mg "Float" CF "Float.__init__" s_Float_init ["self", "sign", "top", "power"]
  x_is_finite : TxM K CF "is_finite" "Float.is_finite" s_Float_is_finite ["self"]
  x_ratio : TxM K CF "ratio" "Float.ratio" s_Float_ratio ["self"]
  x_is_plain : Tx K mg "is_plain" "is_plain" s_is_plain ["number"]
  x_reduced : Tx K mg "reduced" "reduced" s_reduced ["top", "power"]
  x_fits : Tx K mg "fits" "fits" s_fits ["top", "power"]
  x_sign_of : Tx K mg "sign_of" "sign_of" s_sign_of ["is_negative"]
  x_infinity : Tx K mg "infinity" "infinity" s_infinity ["sign"]
  x_nearest : Tx K mg "nearest" "nearest" s_nearest ["sign", "top", "bottom"]
  x_is_number : Tx K mg "is_number" "is_number" s_is_number ["thing"]
  x_to_float : Tx K mg "to_float" "to_float" s_to_float ["number"]
  x_place : Tx K mg "place_of" "place_of" s_place_of ["number"]
  x_order : Tx K mg "order_of" "order_of" s_order_of ["one", "other"]
  x_compare : Tx K mg "compare" "compare" s_compare ["word", "one", "other"]
  x_same : Tx K mg "same" "same" s_same ["one", "other"]
/-! ### what isinstance says of a value -/
def Says (K : PySem.W.Frag) (CF : Addr) (H : Hp) (x : V) (pl bo st fl : Bool) : Prop :=
  ∃ t, TyX K H x t ∧ PySem.W.kitOne K t (.type "int") = some (pl || bo) ∧ PySem.W.kitOne K t (.type "bool") = some bo ∧ PySem.W.kitOne K t (.type "str") = some st ∧ PySem.W.kitOne K t (.ref CF) = some fl
local macro_rules | `(tactic| walk_at "hp") => `(tactic| first | assumption | (refine same_get ?sm ?_; (case sm => assumption); walk_at "hp"))
local macro_rules | `(tactic| walk_at "rd") => `(tactic| first
  | with_reducible refine w_nx ?_
  | with_reducible refine w_rt ?_
  | with_reducible refine w_bk ?_
  | with_reducible refine w_ct ?_
  | with_reducible refine w_seq ?_
  | with_reducible refine w_next ?_
  | with_reducible refine w_ret ?_
  | with_reducible refine w_ifS ?_
  | with_reducible refine w_asg ?_
  | with_reducible refine w_name ?_
  | with_reducible refine w_par ?_
  | with_reducible refine w_parI ?_
  | with_reducible refine w_ii ?_
  | with_reducible refine w_i1 ?_
  | with_reducible refine w_drop ?_
  | with_reducible refine w_sFld ?_
  | ((with_reducible refine' w_var ?rdh ?_); (case rdh => exact rfl))
  | with_reducible refine w_c ?_
  | with_reducible refine w_op ?_
  | with_reducible refine w_un ?_
  | with_reducible refine w_I0 ?_
  | with_reducible refine w_U ?_
  | with_reducible refine w_bits ?_
  | with_reducible refine w_bitsI ?_
  | with_reducible refine w_tup ?_
  | with_reducible refine w_lst ?_
  | with_reducible refine w_nil ?_
  | with_reducible refine w_cons ?_
  | with_reducible refine w_fld ?_
  | with_reducible refine w_call ?_
  | with_reducible refine w_make ?_
  | with_reducible refine w_makeD ?_
  | with_reducible refine w_nn ?_
  | with_reducible refine w_subB ?_
  | with_reducible refine w_meth ?_
  | with_reducible refine w_cb ?_
  | with_reducible refine w_test ?_
  | with_reducible refine w_B ?_
  | with_reducible refine w_bl ?_
  | with_reducible refine w_andV ?_
  | with_reducible refine w_orV ?_
  | with_reducible refine w_notV ?_
  | with_reducible refine w_and ?_
  | with_reducible refine w_or ?_
  | with_reducible refine w_not ?_
  | with_reducible refine w_if ?_
  | with_reducible refine w_gnil ?_
  | with_reducible refine w_gcons ?_
  | with_reducible refine iT ?_
  | with_reducible refine iF ?_
  | with_reducible refine w_eqI ?_
  | with_reducible refine w_neI ?_
  | with_reducible refine w_eqS ?_
  | with_reducible refine w_eqIS ?_
  | with_reducible refine w_eqSI ?_)

section
variable {P : Program} {w : World} {K : PySem.W.Frag} {mg : Str → Option Value} {base : Heap} {CF : Addr}
theorem says_int (T : All K mg CF) {H : Hp} {i : Int} : Says K CF H (.int i) true false false false :=
  ⟨_, .base (.int i), kit_ty (by decide +kernel), kit_ty (by decide +kernel), kit_ty (by decide +kernel), T.i_intF⟩
theorem says_bl (T : All K mg CF) {H : Hp} {b : Bool} : Says K CF H (.bl b) false true false false :=
  ⟨_, .base (.bl b), kit_ty (by decide +kernel), kit_ty (by decide +kernel), kit_ty (by decide +kernel), T.i_boolF⟩
theorem says_str (T : All K mg CF) {H : Hp} {x : Str} : Says K CF H (.str x) false false true false :=
  ⟨_, .base (.str x), kit_ty (by decide +kernel), kit_ty (by decide +kernel), kit_ty (by decide +kernel), T.i_strF⟩
theorem says_non (T : All K mg CF) {H : Hp} : Says K CF H .non false false false false :=
  ⟨_, .base .non, kit_ty (by decide +kernel), kit_ty (by decide +kernel), kit_ty (by decide +kernel), T.i_nonF⟩
theorem kit_self (K : PySem.W.Frag) (C : Addr) : PySem.W.kitOne K (.ref C) (.ref C) = some true := by
  unfold PySem.W.kitOne
  rw [if_pos (by simp)]
theorem ty_ins {C : Addr} (c : Cls K C) (y : ClsTy K C) {H : Hp} {a dx : Addr} {fs : List (Str × V)} (h : H a = some (.ins C dx fs)) : TyX K H (.ref a) (.ref C) := .base (.ins h c y.ha y.hn y.htk y.hm)
theorem says_fl (T : All K mg CF) {H : Hp} {a dx : Addr} {fs : List (Str × V)} (h : H a = some (.ins CF dx fs)) : Says K CF H (.ref a) false false false true :=
  ⟨_, ty_ins T.l_Float T.y_Float h, T.i_Fint, T.i_Fbool, T.i_Fstr, kit_self K CF⟩
/-! ### is_plain -/
def spPlain (K : PySem.W.Frag) (CF : Addr) : Sp := fun vs H Q _ => ∃ x pl bo st fl, vs = [x] ∧ Says K CF H x pl bo st fl ∧ Q (.bl ((pl || bo) && !bo)) H
theorem sc_is_plain : FnScope ["number"] ["number"] (defScope s_is_plain) := ⟨rfl, rfl, rfl, by decide +kernel, rfl, by decide +kernel, by decide +kernel⟩
theorem ok_is_plain (T : All K mg CF) : Kn P w K mg base CX0 1 "is_plain" ["number"] (spPlain K CF) := by
  refine T.x_is_plain.kn fun f fd F => ?_
  refine F.ok sc_is_plain (fun vs H Q E h => ?_) (fun cdv A outer s H vs Q E hr h => ?_)
  · obtain ⟨x, pl, bo, st, fl, rfl, _⟩ := h
    rfl
  · obtain ⟨x, pl, bo, st, fl, rfl, ⟨t, ty, i1, i2, i3, i4⟩, q⟩ := h
    refine ⟨_, (pss_one (ps_ret (pe_and (pe_callB call_isi (by rfl) T.b_isinstance boot_isinstance (pa_cons (pv 0) (pa_cons (pe_bltn (by rfl) T.b_int boot_int (rty _)) pa_nil))) (pe_one (pe_not (pe_callB call_isi (by rfl) T.b_isinstance boot_isinstance (pa_cons (pv 0) (pa_cons (pe_bltn (by rfl) T.b_bool boot_bool (rty _)) pa_nil)))))))), ?_⟩
    repeat walk_at "rd"
    refine w_isi (.ty "int") ty i1 ?_
    repeat walk_at "rd"
    refine iB (fun e => ?_) (fun e => ?_)
    · repeat walk_at "rd"
      refine w_isi (.ty "bool") ty i2 ?_
      repeat walk_at "rd"
      rw [e] at q
      exact q
    · repeat walk_at "rd"
      rw [e] at q
      exact q
/-! ### reduced -/
def redV : V → Int → V × Int
  | .int t, p => (.int (red t p).1, (red t p).2)
  | v, _ => (v, 0)
def spReduced : Sp := fun vs H Q _ => ∃ tv p, vs = [tv, .int p] ∧ ((∃ t, tv = .int t ∧ 0 ≤ t) ∨ tv = .str "inf" ∨ tv = .str "nan") ∧
  ∀ q H', Same H H' → H' q = some (.tup [(redV tv p).1, .int (redV tv p).2]) → Q (.ref q) H'
theorem sc_reduced : FnScope ["top", "power", "less"] ["top", "power"] (defScope s_reduced) := ⟨rfl, rfl, rfl, by decide +kernel, rfl, by decide +kernel, by decide +kernel⟩
theorem ok_reduced (T : All K mg CF) : Kn P w K mg base CX0 1 "reduced" ["top", "power"] spReduced := by
  refine T.x_reduced.kn fun f fd F => ?_
  refine F.ok sc_reduced (fun vs H Q E h => ?_) (fun cdv A outer s H vs Q E hr h => ?_)
  · obtain ⟨tv, p, rfl, _⟩ := h
    rfl
  · obtain ⟨tv, p, rfl, c, q⟩ := h
    refine ⟨_, (pss_cons (ps_if (PW.pt (pw_or (pt_cmpR op_in_seq (pv 0) (pe_tup (pa_cons pe_str (pa_cons pe_str pa_nil))) rfl) (pw_or1 (pt_cmpR op_eq (pv 0) pe_int (nomark _))))) (pss_one (ps_ret (pe_tup (pa_cons (pv 0) (pa_cons pe_int pa_nil))))) pss_nil)
      (pss_cons (ps_set (i := 2) sc_reduced.nd rfl (Or.inl rfl) (pe_op op_sub (pe_bits (pe_op op_and (pv 0) (pe_op op_sub pe_int (pv 0)))) pe_int))
      (pss_one (ps_ret (pe_tup (pa_cons (pe_op op_shr (pv 0) (pv 2)) (pa_cons (pe_op op_add (pv 1) (pv 2)) pa_nil))))))), ?_⟩
    repeat walk_at "rd"
    refine w_tup2 fun a1 H1 s1 n1 h1 => ?_
    rcases c with ⟨t, rfl, ht⟩ | rfl | rfl
    · refine w_in h1 rfl rfl ?_
      repeat walk_at "rd"
      refine iF ?_
      repeat walk_at "rd"
      refine iD (fun z => ?_) (fun z => ?_)
      · repeat walk_at "rd"
        refine w_tup2 fun a2 H2 s2 n2 h2 => ?_
        repeat walk_at "rd"
        refine q a2 H2 (s1.trans s2) ?_
        subst z
        show H2 a2 = some (.tup [.int (red 0 p).1, .int (red 0 p).2])
        rw [red_zero]
        exact h2
      · repeat walk_at "rd"
        refine w_I (by obtain ⟨k, m, _, _, e⟩ := less_spec (t := t) (by omega); show 0 ≤ less t; omega) ?_
        repeat walk_at "rd"
        refine w_tup2 fun a2 H2 s2 n2 h2 => ?_
        repeat walk_at "rd"
        refine q a2 H2 (s1.trans s2) ?_
        show H2 a2 = some (.tup [.int (red t p).1, .int (red t p).2])
        unfold red
        rw [if_neg z]
        exact h2
    all_goals
      refine w_in h1 rfl rfl ?_
      repeat walk_at "rd"
      refine iT ?_
      repeat walk_at "rd"
      refine w_tup2 fun a2 H2 s2 n2 h2 => ?_
      repeat walk_at "rd"
      exact q a2 H2 (s1.trans s2) h2
/-! ### fits -/
def spFits : Sp := fun vs H Q _ => ∃ t p, vs = [.int t, .int p] ∧ Q (.bl (fitsB t p)) H
theorem sc_fits : FnScope ["top", "power"] ["top", "power"] (defScope s_fits) := ⟨rfl, rfl, rfl, by decide +kernel, rfl, by decide +kernel, by decide +kernel⟩
theorem ok_fits (T : All K mg CF) : Kn P w K mg base CX0 1 "fits" ["top", "power"] spFits := by
  refine T.x_fits.kn fun f fd F => ?_
  refine F.ok sc_fits (fun vs H Q E h => ?_) (fun cdv A outer s H vs Q E hr h => ?_)
  · obtain ⟨t, p, rfl, _⟩ := h
    rfl
  · obtain ⟨t, p, rfl, q⟩ := h
    refine ⟨_, (pss_one (ps_ret (pe_or (pe_and (pe_cmpR op_lt (pv 0) (pgE "ROOM" T.c_ROOM) (nomark _)) (pe_and (pe_cmpR op_ge (pv 1) (pgE "LOWEST" T.c_LOWEST) (nomark _)) (pe_one (pe_cmpR op_le (pe_op op_add (pe_bits (pv 0)) (pv 1)) (pgE "TOO_GREAT" T.c_TOO_GREAT) (nomark _))))) (pe_one (pe_cmpR op_eq (pv 0) pe_int (nomark _)))))), ?_⟩
    unfold fitsB at q
    repeat walk_at "rd"
    refine iD (fun c1 => ?_) (fun c1 => ?_)
    · rw [decide_eq_true c1, Bool.true_and] at q
      repeat walk_at "rd"
      refine iD (fun c2 => ?_) (fun c2 => ?_)
      · rw [decide_eq_true c2, Bool.true_and] at q
        repeat walk_at "rd"
        refine iD (fun c3 => ?_) (fun c3 => ?_)
        · rw [decide_eq_true (show bits t + p ≤ 1024 from c3), Bool.true_or] at q
          repeat walk_at "rd"
          exact q
        · rw [decide_eq_false (show ¬ bits t + p ≤ 1024 from c3), Bool.false_or] at q
          repeat walk_at "rd"
          exact q
      · rw [decide_eq_false c2, Bool.false_and, Bool.false_or] at q
        repeat walk_at "rd"
        exact q
    · rw [decide_eq_false c1, Bool.false_and, Bool.false_or] at q
      repeat walk_at "rd"
      exact q
/-! ### sign_of -/
def spSign : Sp := fun vs H Q _ => ∃ b, vs = [.bl b] ∧ Q (.int (if b = true then -1 else 1)) H
theorem sc_sign_of : FnScope ["is_negative"] ["is_negative"] (defScope s_sign_of) := ⟨rfl, rfl, rfl, by decide +kernel, rfl, by decide +kernel, by decide +kernel⟩
theorem ok_sign_of (T : All K mg CF) : Kn P w K mg base CX0 1 "sign_of" ["is_negative"] spSign := by
  refine T.x_sign_of.kn fun f fd F => ?_
  refine F.ok sc_sign_of (fun vs H Q E h => ?_) (fun cdv A outer s H vs Q E hr h => ?_)
  · obtain ⟨b, rfl, _⟩ := h
    rfl
  · obtain ⟨b, rfl, q⟩ := h
    refine ⟨_, (pss_one (ps_ret (pe_ifExp (pt_val (pv 0)) (pe_un un_neg pe_int) pe_int))), ?_⟩
    repeat walk_at "rd"
    cases b with
    | true =>
      refine iT ?_
      repeat walk_at "rd"
      exact q
    | false =>
      refine iF ?_
      repeat walk_at "rd"
      exact q
/-! ### Float(sign, top, power) -/
/-- the arguments that make the float f -/
def Arg (s : Int) (tv : V) (p : Int) (f : Fl) : Prop :=
  (∃ t, tv = .int t ∧ 0 ≤ t ∧ (s = 1 ∨ s = -1) ∧ fitsB (red t p).1 (red t p).2 = true ∧ f = .fin s (red t p).1 (red t p).2) ∨
  (tv = .str "inf" ∧ p = 0 ∧ (s = 1 ∨ s = -1) ∧ f = .inf s) ∨ (tv = .str "nan" ∧ p = 0 ∧ s = 1 ∧ f = .nan)
theorem Arg.redV {s p : Int} {tv : V} {f : Fl} (a : Arg s tv p f) : f.s = s ∧ f.t = (redV tv p).1 ∧ f.p = (redV tv p).2 := by
  rcases a with ⟨t, rfl, _, _, _, rfl⟩ | ⟨rfl, _, _, rfl⟩ | ⟨rfl, _, rfl, rfl⟩ <;> exact ⟨rfl, rfl, rfl⟩
theorem Arg.ok {s p : Int} {tv : V} {f : Fl} (a : Arg s tv p f) : f.ok := by
  rcases a with ⟨t, rfl, h0, hs, hf, rfl⟩ | ⟨rfl, _, hs, rfl⟩ | ⟨rfl, _, rfl, rfl⟩
  · by_cases z : t = 0
    · subst z
      rw [red_zero]
      exact ⟨hs, by decide, by decide, fun _ => rfl, fun h => absurd rfl h⟩
    · obtain ⟨k, m, hm, e, r⟩ := red_spec (t := t) (by omega) p
      rw [r] at hf ⊢
      unfold fitsB at hf
      have z2 : ¬ 2 * m + 1 = 0 := by omega
      rw [decide_eq_false z2, Bool.or_false, Bool.and_eq_true, Bool.and_eq_true, decide_eq_true_eq, decide_eq_true_eq, decide_eq_true_eq] at hf
      exact ⟨hs, by omega, hf.1, fun h => absurd h z2, fun _ => ⟨hf.2.1, hf.2.2, by omega⟩⟩
  · exact hs
  · exact trivial
def spInit (C : Addr) : Sp := fun vs H Q _ => ∃ x dx s tv p f, vs = [.ref x, .int s, tv, .int p] ∧ H x = some (.ins C dx []) ∧ Arg s tv p f ∧
  ∀ H', (∀ b o, b ≠ x → H b = some o → H' b = some o) → H' x = some (.ins C dx (flds f.s f.t f.p)) → Q .non H'
theorem u_plain_int (T : All K mg CF) {i : Int} {H : Hp} {Q : VK} {E : XK} (q : Q (.bl true) H) : spPlain K CF ([V.int i] ++ []) H Q E :=
  ⟨.int i, true, false, false, false, rfl, says_int T, q⟩
theorem u_reduced {tv : V} {p : Int} {H : Hp} {Q : VK} {E : XK} (c : (∃ t, tv = .int t ∧ 0 ≤ t) ∨ tv = .str "inf" ∨ tv = .str "nan") (q : ∀ a H', Same H H' → H' a = some (.tup [(redV tv p).1, .int (redV tv p).2]) → Q (.ref a) H') :
    spReduced ([tv, V.int p] ++ []) H Q E := ⟨tv, p, rfl, c, q⟩
theorem u_fits {t p : Int} {H : Hp} {Q : VK} {E : XK} (q : Q (.bl (fitsB t p)) H) : spFits ([V.int t, V.int p] ++ []) H Q E := ⟨t, p, rfl, q⟩
theorem w_gFld {to : TE} {f : Str} {v : V} {σ : L2.St} {H : Hp} {Q : L2.St → Hp → Prop} (h : to σ H fun x H1 => ∃ a C dx fs, x = .ref a ∧ H1 a = some (.ins C dx fs) ∧ Cls K C ∧ NoAttr K C f ∧ fs.length < 1000 ∧ Q σ (upd H1 a (.ins C dx (putF f v fs)))) : gFld K to f v σ H Q := h
theorem putF_s (s : Int) : putF "sign" (.int s) [] = [(("sign" : Str), V.int s)] := rfl
theorem len_put (f : Str) (v : V) (fs : List (Str × V)) {n : Nat} (h : fs.length < n) (hn : n < 1000) : (putF f v fs).length < 1000 := by
  have := length_putF f v fs
  omega
theorem lenf (s : Int) (t : V) (p : Int) : (flds s t p).length < 1000 := by
  unfold flds
  have a := length_putF "power" (.int p) (putF "top" t (putF "sign" (.int s) []))
  have b := length_putF "top" t (putF "sign" (.int s) [])
  have c := length_putF "sign" (.int s) []
  simp at c
  omega
theorem sc_Float_init : FnScope ["self", "sign", "top", "power"] ["self", "sign", "top", "power"] (defScope s_Float_init) := ⟨rfl, rfl, rfl, by decide +kernel, rfl, by decide +kernel, by decide +kernel⟩
theorem ok_init (T : All K mg CF) (k_is_plain : Kn P w K mg base CX0 1 "is_plain" ["number"] (spPlain K CF)) (k_reduced : Kn P w K mg base CX0 1 "reduced" ["top", "power"] spReduced) (k_fits : Kn P w K mg base CX0 1 "fits" ["top", "power"] spFits) :
    KnC P w K mg base CX0 2 "Float" CF ["self", "sign", "top", "power"] (spInit CF) := by
  refine T.x_init.kn fun f fd F => ?_
  refine F.ok sc_Float_init (fun vs H Q E h => ?_) (fun cdv A outer s H vs Q E hr h => ?_)
  · obtain ⟨x, dx, s, tv, p, f, rfl, _⟩ := h
    rfl
  · obtain ⟨x, dx, s, tv, p, f, rfl, hx, a, q⟩ := h
    refine ⟨_, (pss_cons (ps_if (PW.pt (pw_or (pt_not (pt_val (pk k_is_plain hr (pa_cons (pv 1) pa_nil)))) (pw_or1 (pt_cmpR op_notIn_seq (pv 1) (pe_tup (pa_cons pe_int (pa_cons (pe_un un_neg pe_int) pa_nil))) rfl)))) (pss_one ps_never) pss_nil)
      (C8.pss_cut (ps_if (PW.pt (pw_and (pt_val (pe_callB call_isi (by rfl) T.b_isinstance boot_isinstance (pa_cons (pv 2) (pa_cons (pe_bltn (by rfl) T.b_str boot_str (rty _)) pa_nil)))) (pw_and1 (pt_cmpR op_in_seq (pv 2) (pe_tup (pa_cons pe_str (pa_cons pe_str pa_nil))) rfl)))) (pss_cons (ps_if (PW.pt (pw_and (pt_cmpR op_eq (pv 2) pe_str (nomark _)) (pw_and1 (pt_cmpR op_eq (pv 1) (pe_un un_neg pe_int) (nomark _))))) (pss_one ps_never) pss_nil)
      (pss_one (ps_if (PW.pt (pw_or (pt_not (pt_val (pk k_is_plain hr (pa_cons (pv 3) pa_nil)))) (pw_or1 (pt_cmpR op_ne (pv 3) pe_int (nomark _))))) (pss_one ps_never) pss_nil))) (pss_one (ps_if (PW.pt (pw_or (pt_not (pt_val (pk k_is_plain hr (pa_cons (pv 2) pa_nil)))) (pw_or1 (pt_cmpR op_lt (pv 2) pe_int (nomark _))))) (pss_one ps_never) (pss_one (ps_if (pt_not (pt_val (pk k_is_plain hr (pa_cons (pv 3) pa_nil)))) (pss_one ps_never) pss_nil)))))
      (pss_cons (ps_fld (pv 0) (pv 1) rfl)
      (pss_cons (ps_asg (pk k_reduced hr (pa_cons (pv 2) (pa_cons (pv 3) pa_nil))) (pg_tup (by rfl) (pgs_cons (pg_fld (pv 0)) (pgs_cons (pg_fld (pv 0)) pgs_nil))))
      (pss_one (ps_if (PW.pt (pw_and (pt_cmpR op_notIn_seq (pe_fld (pv 0) rfl) (pe_tup (pa_cons pe_str (pa_cons pe_str pa_nil))) rfl) (pw_and1 (pt_not (pt_val (pk k_fits hr (pa_cons (pe_fld (pv 0) rfl) (pa_cons (pe_fld (pv 0) rfl) pa_nil)))))))) (pss_one ps_never) pss_nil)))))), ?_⟩
    have hs : s = 1 ∨ s = -1 := by rcases a with ⟨t, _, _, h, _, _⟩ | ⟨_, _, h, _⟩ | ⟨_, _, h, _⟩ <;> first | exact h | exact .inl h
    repeat walk_at "rd"
    refine u_plain_int T ?_
    repeat walk_at "rd"
    refine iF ?_
    repeat walk_at "rd"
    refine w_tup2 fun a1 H1 s1 n1 h1 => ?_
    refine w_nin h1 rfl rfl ?_
    repeat walk_at "rd"
    have e1 : (!inV (V.int s) [V.int 1, V.int (-1)]) = false := by rcases hs with rfl | rfl <;> rfl
    rw [e1]
    refine iF ?_
    repeat walk_at "rd"
    refine w_cut (Mid := fun σ' H' => σ' = start ["self", "sign", "top", "power"] [.ref x, .int s, tv, .int p] ∧ Same H H') ?_ ?_
    · repeat walk_at "rd"
      rcases a with ⟨t, rfl, h0, _, hf, rfl⟩ | ⟨rfl, rfl, _, rfl⟩ | ⟨rfl, rfl, rfl, rfl⟩
      · refine w_isi (.ty "str") (.base (.int t)) (kit_ty (b := "str") (r := false) (by decide +kernel)) ?_
        repeat walk_at "rd"
        refine u_plain_int T ?_
        repeat walk_at "rd"
        refine iF ?_
        repeat walk_at "rd"
        refine iD (fun z => by omega) (fun _ => ?_)
        repeat walk_at "rd"
        refine u_plain_int T ?_
        repeat walk_at "rd"
        refine iF ?_
        repeat walk_at "rd"
        exact ⟨rfl, s1⟩
      · refine w_isi (.ty "str") (.base (.str _)) (kit_ty (b := "str") (r := true) (by decide +kernel)) ?_
        repeat walk_at "rd"
        refine w_tup2 fun a2 H2 s2 n2 h2 => ?_
        refine w_in h2 rfl rfl ?_
        repeat walk_at "rd"
        refine iT ?_
        repeat walk_at "rd"
        refine iD (fun z => absurd z (by decide +kernel)) (fun _ => ?_)
        repeat walk_at "rd"
        refine u_plain_int T ?_
        repeat walk_at "rd"
        refine iF ?_
        repeat walk_at "rd"
        refine iN (fun z => absurd rfl z) (fun _ => ?_)
        repeat walk_at "rd"
        exact ⟨rfl, s1.trans s2⟩
      · refine w_isi (.ty "str") (.base (.str _)) (kit_ty (b := "str") (r := true) (by decide +kernel)) ?_
        repeat walk_at "rd"
        refine w_tup2 fun a2 H2 s2 n2 h2 => ?_
        refine w_in h2 rfl rfl ?_
        repeat walk_at "rd"
        refine iT ?_
        repeat walk_at "rd"
        refine iD (fun _ => ?_) (fun z => absurd rfl z)
        repeat walk_at "rd"
        refine iD (fun z => absurd z (by decide)) (fun _ => ?_)
        repeat walk_at "rd"
        refine u_plain_int T ?_
        repeat walk_at "rd"
        refine iF ?_
        repeat walk_at "rd"
        refine iN (fun z => absurd rfl z) (fun _ => ?_)
        repeat walk_at "rd"
        exact ⟨rfl, s1.trans s2⟩
    · rintro σ' H3 ⟨rfl, s3⟩
      obtain ⟨e1, e2, e3⟩ := a.redV
      have hx3 := s3 _ _ hx
      repeat walk_at "rd"
      refine w_sfI hx3 T.l_Float T.n_sign (by decide) ?_
      repeat walk_at "rd"
      refine u_reduced (by rcases a with ⟨t, rfl, h0, _⟩ | ⟨rfl, _⟩ | ⟨rfl, _⟩ <;> first | exact .inl ⟨_, rfl, h0⟩ | exact .inr (.inl rfl) | exact .inr (.inr rfl)) fun a4 H4 s4 h4 => ?_
      have hx4 : H4 x = some (.ins CF dx (putF "sign" (.int s) [])) := s4 _ _ upd_same
      refine w_gtup h4 rfl ?_
      repeat walk_at "rd"
      refine w_gFld ?_
      repeat walk_at "rd"
      refine w_sfI hx4 T.l_Float T.n_top (by show 1 < 1000; decide) ?_
      repeat walk_at "rd"
      refine w_gFld ?_
      repeat walk_at "rd"
      refine w_sfI upd_same T.l_Float T.n_power (len_put _ _ _ (n := 2) (by show 1 < 2; decide) (by decide)) ?_
      repeat walk_at "rd"
      rw [upd_upd]
      have ef : (putF "power" (.int (redV tv p).2) (putF "top" (redV tv p).1 (putF "sign" (.int s) []))) = flds f.s f.t f.p := by rw [e1, e2, e3]; rfl
      rw [ef]
      generalize eH5 : upd H4 x (.ins CF dx (flds f.s f.t f.p)) = H5
      have hx5 : H5 x = some (.ins CF dx (flds f.s f.t f.p)) := by rw [← eH5]; exact upd_same
      have k5 : ∀ b o, b ≠ x → H b = some o → H5 b = some o := fun b o hb e => by
        rw [← eH5, upd_ne hb]
        exact s4 _ _ (by rw [upd_ne hb]; exact s3 _ _ e)
      refine w_fldI hx5 T.l_Float T.n_top (flds_t _ _ _) ?_
      repeat walk_at "rd"
      refine w_tup2 fun a6 H6 s6 n6 h6 => ?_
      have hx6 := s6 _ _ hx5
      have k6 : ∀ b o, b ≠ x → H b = some o → H6 b = some o := fun b o hb e => s6 _ _ (k5 b o hb e)
      rcases a with ⟨t, rfl, h0, _, hf, rfl⟩ | ⟨rfl, rfl, _, rfl⟩ | ⟨rfl, rfl, rfl, rfl⟩
      · refine w_nin h6 rfl rfl ?_
        repeat walk_at "rd"
        refine iT ?_
        repeat walk_at "rd"
        refine w_fldI hx6 T.l_Float T.n_top (flds_t _ _ _) ?_
        repeat walk_at "rd"
        refine w_fldI hx6 T.l_Float T.n_power (flds_p _ _ _) ?_
        repeat walk_at "rd"
        refine u_fits ?_
        repeat walk_at "rd"
        show if (!fitsB (red t p).1 (red t p).2) = true then _ else _
        rw [hf]
        refine iF ?_
        repeat walk_at "rd"
        exact q H6 k6 hx6
      all_goals
        refine w_nin h6 rfl rfl ?_
        repeat walk_at "rd"
        refine iF ?_
        refine iF ?_
        repeat walk_at "rd"
        exact q H6 k6 hx6
/-- Float(s, tv, p) makes f -/
theorem u_Float {s p : Int} {tv : V} {f : Fl} {H : Hp} {Q : VK} {E : XK} (a : Arg s tv p f) (q : ∀ x H', Same H H' → H x = none → FlAt CF H' x f → Q (.ref x) H') : MakeK CF (spInit CF) [.int s, tv, .int p] H Q E := by
  intro x dx hx hdx ne
  refine ⟨x, dx, s, tv, p, f, rfl, upd_same, a, fun H' k hx' => ⟨rfl, q x H' (fun b o e => k b o (ne_of_none e hx) ?_) hx ⟨dx, hx'⟩⟩⟩
  rw [upd_ne (ne_of_none e hx), upd_ne (ne_of_none e hdx)]
  exact e
end
end Nu

set_option Elab.async false
set_option linter.all false
set_option maxRecDepth 100000
set_option autoImplicit false
set_option maxHeartbeats 4000000
namespace Nu
open PySem PySem.Spec PyProof.Rows L2 Rd
local macro_rules | `(tactic| walk_at "hp") => `(tactic| first | assumption | (refine same_get ?sm ?_; (case sm => assumption); walk_at "hp"))
local macro_rules | `(tactic| walk_at "rd") => `(tactic| first
  | with_reducible refine w_nx ?_
  | with_reducible refine w_rt ?_
  | with_reducible refine w_bk ?_
  | with_reducible refine w_ct ?_
  | with_reducible refine w_seq ?_
  | with_reducible refine w_next ?_
  | with_reducible refine w_ret ?_
  | with_reducible refine w_ifS ?_
  | with_reducible refine w_asg ?_
  | with_reducible refine w_name ?_
  | with_reducible refine w_par ?_
  | with_reducible refine w_parI ?_
  | with_reducible refine w_ii ?_
  | with_reducible refine w_i1 ?_
  | with_reducible refine w_drop ?_
  | with_reducible refine w_sFld ?_
  | ((with_reducible refine' w_var ?rdh ?_); (case rdh => exact rfl))
  | with_reducible refine w_c ?_
  | with_reducible refine w_op ?_
  | with_reducible refine w_un ?_
  | with_reducible refine w_I0 ?_
  | with_reducible refine w_U ?_
  | with_reducible refine w_bits ?_
  | with_reducible refine w_bitsI ?_
  | with_reducible refine w_tup ?_
  | with_reducible refine w_lst ?_
  | with_reducible refine w_nil ?_
  | with_reducible refine w_cons ?_
  | with_reducible refine w_fld ?_
  | with_reducible refine w_call ?_
  | with_reducible refine w_make ?_
  | with_reducible refine w_makeD ?_
  | with_reducible refine w_nn ?_
  | with_reducible refine w_subB ?_
  | with_reducible refine w_meth ?_
  | with_reducible refine w_cb ?_
  | with_reducible refine w_test ?_
  | with_reducible refine w_B ?_
  | with_reducible refine w_bl ?_
  | with_reducible refine w_andV ?_
  | with_reducible refine w_orV ?_
  | with_reducible refine w_notV ?_
  | with_reducible refine w_and ?_
  | with_reducible refine w_or ?_
  | with_reducible refine w_not ?_
  | with_reducible refine w_if ?_
  | with_reducible refine w_gnil ?_
  | with_reducible refine w_gcons ?_
  | with_reducible refine iT ?_
  | with_reducible refine iF ?_
  | with_reducible refine w_eqI ?_
  | with_reducible refine w_neI ?_
  | with_reducible refine w_eqS ?_
  | with_reducible refine w_eqIS ?_
  | with_reducible refine w_eqSI ?_)

section
variable {P : Program} {w : World} {K : PySem.W.Frag} {mg : Str → Option Value} {base : Heap} {CF : Addr}
/-- a new float -/
def NewF (CF : Addr) (f : Fl) (H : Hp) (Q : VK) : Prop := ∀ x H', Same H H' → H x = none → FlAt CF H' x f → Q (.ref x) H'
/-! ### infinity -/
def spInf (CF : Addr) : Sp := fun vs H Q _ => ∃ s, vs = [.int s] ∧ (s = 1 ∨ s = -1) ∧ NewF CF (.inf s) H Q
theorem sc_infinity : FnScope ["sign"] ["sign"] (defScope s_infinity) := ⟨rfl, rfl, rfl, by decide +kernel, rfl, by decide +kernel, by decide +kernel⟩
theorem ok_infinity (T : All K mg CF) (k_Float_init : KnC P w K mg base CX0 2 "Float" CF ["self", "sign", "top", "power"] (spInit CF)) : Kn P w K mg base CX0 4 "infinity" ["sign"] (spInf CF) := by
  refine T.x_infinity.kn fun f fd F => ?_
  refine F.ok sc_infinity (fun vs H Q E h => ?_) (fun cdv A outer s H vs Q E hr h => ?_)
  · obtain ⟨s, rfl, _⟩ := h
    rfl
  · obtain ⟨s, rfl, hs, q⟩ := h
    refine ⟨_, (pss_one (ps_ret (pkC k_Float_init hr (pa_cons (pv 0) (pa_cons pe_str (pa_cons pe_int pa_nil)))))), ?_⟩
    repeat walk_at "rd"
    refine u_Float (.inr (.inl ⟨rfl, rfl, hs, rfl⟩)) fun x H' s1 n1 h1 => ?_
    exact q x H' s1 n1 h1
/-! ### nearest -/
def nearM (s t b : Int) : Fl := if t = 0 then .fin s 0 0 else if 1024 < bits (wh t b) + p2 t b then .inf s else .fin s (red (wh t b) (p2 t b)).1 (red (wh t b) (p2 t b)).2
def spNear (CF : Addr) : Sp := fun vs H Q _ => ∃ s t b, vs = [.int s, .int t, .int b] ∧ (s = 1 ∨ s = -1) ∧ 0 ≤ t ∧ 0 < b ∧ bits t ≤ 2200 ∧ bits b ≤ 2200 ∧ NewF CF (nearM s t b) H Q
theorem cshl {i j : Int} (h : bits i ≤ 10000) (h0 : 0 ≤ j) (h1 : j ≤ 10000) : CShl i j := by
  refine ⟨h0, ?_⟩
  have e : (2 : Int) ^ 27 = 134217728 := by decide
  rw [e]
  have : bits i = (Builtin.Int.intBits i : Nat) := rfl
  omega
theorem cdivw {i j : Int} (h : 0 < j) (hb : bits j ≤ 8000) : CDivW i j := by
  have := (bits_le (n := j) (k := 8000)).1 (by omega)
  exact wide_div h this (by decide) (by decide)
theorem cdivp {i j : Int} (h : 0 < j) (hb : bits i ≤ 4000) : CDivP i j := by
  refine divp_ok h ?_
  have : bits i = (Builtin.Int.intBits i : Nat) := rfl
  omega
theorem cmulx {i j : Int} (h : bits i ≤ 100000) (hb : bits j ≤ 100000) : CMulX i j := by
  unfold CMulX
  have : bits i = (Builtin.Int.intBits i : Nat) := rfl
  have : bits j = (Builtin.Int.intBits j : Nat) := rfl
  omega
theorem sc_nearest : FnScope ["sign", "top", "bottom", "power", "whole", "rest"] ["sign", "top", "bottom"] (defScope s_nearest) := ⟨rfl, rfl, rfl, by decide +kernel, rfl, by decide +kernel, by decide +kernel⟩
theorem ok_nearest (T : All K mg CF) (k_Float_init : KnC P w K mg base CX0 2 "Float" CF ["self", "sign", "top", "power"] (spInit CF)) (k_infinity : Kn P w K mg base CX0 4 "infinity" ["sign"] (spInf CF)) :
    Kn P w K mg base CX0 5 "nearest" ["sign", "top", "bottom"] (spNear CF) := by
  refine T.x_nearest.kn fun f fd F => ?_
  refine F.ok sc_nearest (fun vs H Q E h => ?_) (fun cdv A outer s H vs Q E hr h => ?_)
  · obtain ⟨s, t, b, rfl, _⟩ := h
    rfl
  · obtain ⟨s, t, b, rfl, hs, ht, hb, bt, bb, q⟩ := h
    refine ⟨_, (pss_cons (ps_if (pt_cmpR op_eq (pv 1) pe_int (nomark _)) (pss_one (ps_ret (pkC k_Float_init hr (pa_cons (pv 0) (pa_cons pe_int (pa_cons pe_int pa_nil)))))) pss_nil)
      (pss_cons (ps_set (i := 3) sc_nearest.nd rfl (Or.inl rfl) (pe_callB (call_max2 rfl) (by rfl) T.b_max boot_max (pa_cons (pe_op op_sub (pe_op op_sub (pe_bits (pv 1)) (pe_bits (pv 2))) pe_int) (pa_cons (pgE "LOWEST" T.c_LOWEST) pa_nil))))
      (C8.pss_cut (ps_if (pt_cmpR op_lt (pv 3) pe_int (nomark _)) (pss_one (ps_set (i := 1) sc_nearest.nd rfl (Or.inl rfl) (pe_op op_shlW (pv 1) (pe_op op_sub pe_int (pv 3))))) (pss_one (ps_set (i := 2) sc_nearest.nd rfl (Or.inl rfl) (pe_op op_shlW (pv 2) (pv 3)))))
      (C8.pss_cut (ps_if (pt_cmpR op_ge (pe_op op_fdivW (pv 1) (pv 2)) (pgE "ROOM" T.c_ROOM) (nomark _)) (pss_cons (ps_set (i := 2) sc_nearest.nd rfl (Or.inl rfl) (pe_op op_shlW (pv 2) pe_int))
      (pss_one (ps_set (i := 3) sc_nearest.nd rfl (Or.inl rfl) (pe_op op_add (pv 3) pe_int)))) pss_nil)
      (pss_cons (ps_asg (pe_callB call_divmodW (by rfl) T.b_divmod boot_divmod (pa_cons (pv 1) (pa_cons (pv 2) pa_nil))) (pg_tup (by rfl) (pgs_cons (pg_name (i := 4) sc_nearest.nd rfl (Or.inl rfl)) (pgs_cons (pg_name (i := 5) sc_nearest.nd rfl (Or.inl rfl)) pgs_nil))))
      (C8.pss_cut (ps_if (PW.pt (pw_or (pt_cmpR op_gt (pe_op op_mulX pe_int (pv 5)) (pv 2) (nomark _)) (pw_or1 (PW.pt (pw_and (pt_cmpR op_eq (pe_op op_mulX pe_int (pv 5)) (pv 2) (nomark _)) (pw_and1 (pt_cmpR op_eq (pe_op op_and (pv 4) pe_int) pe_int (nomark _)))))))) (pss_one (ps_set (i := 4) sc_nearest.nd rfl (Or.inl rfl) (pe_op op_add (pv 4) pe_int))) pss_nil)
      (pss_cons (ps_if (pt_cmpR op_gt (pe_op op_add (pe_bits (pv 4)) (pv 3)) (pgE "TOO_GREAT" T.c_TOO_GREAT) (nomark _)) (pss_one (ps_ret (pk k_infinity hr (pa_cons (pv 0) pa_nil)))) pss_nil)
      (pss_one (ps_ret (pkC k_Float_init hr (pa_cons (pv 0) (pa_cons (pv 4) (pa_cons (pv 3) pa_nil))))))))))))), ?_⟩
    repeat walk_at "rd"
    refine iD (fun z => ?_) (fun z => ?_)
    · repeat walk_at "rd"
      subst z
      refine u_Float (.inl ⟨0, rfl, by decide, hs, by rw [red_zero]; decide, rfl⟩) fun x H' s1 n1 h1 => ?_
      refine q x H' s1 n1 ?_
      unfold nearM
      rw [if_pos rfl]
      rw [red_zero] at h1
      exact h1
    · repeat walk_at "rd"
      rw [show (if (-1074 : Int) > ((Builtin.Int.intBits t : Nat) : Int) - ((Builtin.Int.intBits b : Nat) : Int) - 53 then (-1074 : Int) else ((Builtin.Int.intBits t : Nat) : Int) - ((Builtin.Int.intBits b : Nat) : Int) - 53) = pw t b from rfl]
      have g1 := pw_ge (t := t) (b := b)
      have g2 := pw_le (t := t) (b := b) bt
      repeat walk_at "rd"
      refine w_cut (Mid := fun σ' H' => σ' = [some (.int s), some (.int (t1 t b)), some (.int (b1 t b)), some (.int (pw t b)), none, none] ∧ H' = H) ?_ ?_
      · repeat walk_at "rd"
        refine iD (fun c => ?_) (fun c => ?_)
        · repeat walk_at "rd"
          refine w_I (cshl (by omega) (by omega) (by omega)) ?_
          repeat walk_at "rd"
          refine ⟨?_, rfl⟩
          unfold t1 b1
          rw [if_pos c, if_pos c]
          rfl
        · repeat walk_at "rd"
          refine w_I (cshl (by omega) (by omega) (by omega)) ?_
          repeat walk_at "rd"
          refine ⟨?_, rfl⟩
          unfold t1 b1
          rw [if_neg c, if_neg c]
          rfl
      rintro σ' H' ⟨rfl, rfl⟩
      have h1 := b1_pos (t := t) hb
      have h2 := b2_pos (t := t) hb
      have h3 := b1_bits hb bt bb
      have h4 := b2_bits hb bt bb
      have h5 := t1_bits (b := b) ht bt
      refine w_cut (Mid := fun σ' H'' => σ' = [some (.int s), some (.int (t1 t b)), some (.int (b2 t b)), some (.int (p2 t b)), none, none] ∧ H'' = H') ?_ ?_
      · repeat walk_at "rd"
        refine w_I (cdivw h1 (by omega)) ?_
        repeat walk_at "rd"
        refine iD (fun c => ?_) (fun c => ?_)
        · repeat walk_at "rd"
          refine w_I (cshl (by omega) (by omega) (by omega)) ?_
          repeat walk_at "rd"
          refine ⟨?_, rfl⟩
          unfold b2 p2
          rw [if_pos c, if_pos c]
          rfl
        · repeat walk_at "rd"
          refine ⟨?_, rfl⟩
          unfold b2 p2
          rw [if_neg c, if_neg c]
      rintro σ' H'' ⟨rfl, rfl⟩
      repeat walk_at "rd"
      refine ⟨cdivp h2 (by omega), fun a1 n1 => ?_⟩
      have s1 := same_upd (o := .tup [.int (t1 t b / b2 t b), .int (t1 t b % b2 t b)]) n1
      have e1 := upd_same (H := H'') (a := a1) (o := .tup [.int (t1 t b / b2 t b), .int (t1 t b % b2 t b)])
      generalize upd H'' a1 (.tup [.int (t1 t b / b2 t b), .int (t1 t b % b2 t b)]) = H1 at s1 e1 ⊢
      refine w_gtup e1 rfl ?_
      repeat walk_at "rd"
      rw [show t1 t b / b2 t b = wq t b from rfl, show t1 t b % b2 t b = wr t b from rfl]
      have r0 := wr_nn (t := t) hb
      have r1 := wr_lt (t := t) hb
      have rb : bits (wr t b) ≤ 4401 := Int.le_trans (bits_mono r0 (Int.le_of_lt r1)) h4
      refine w_cut (Mid := fun σ' H'' => σ' = [some (.int s), some (.int (t1 t b)), some (.int (b2 t b)), some (.int (p2 t b)), some (.int (wh t b)), some (.int (wr t b))] ∧ H'' = H1) ?_ ?_
      · have up : goesUp t b → wh t b = wq t b + 1 := fun c => if_pos c
        have dn : ¬ goesUp t b → wh t b = wq t b := fun c => if_neg c
        repeat walk_at "rd"
        refine w_I (cmulx (by decide) (by omega)) ?_
        repeat walk_at "rd"
        refine iD (fun c => ?_) (fun c => ?_)
        · refine iT ?_
          repeat walk_at "rd"
          refine ⟨?_, rfl⟩
          rw [up (.inl c)]
          rfl
        · repeat walk_at "rd"
          refine w_I (cmulx (by decide) (by omega)) ?_
          repeat walk_at "rd"
          refine iD (fun c2 => ?_) (fun c2 => ?_)
          · repeat walk_at "rd"
            refine iD (fun c3 => ?_) (fun c3 => ?_)
            · repeat walk_at "rd"
              refine ⟨?_, rfl⟩
              rw [up (.inr ⟨c2, c3⟩)]
              rfl
            · repeat walk_at "rd"
              refine ⟨?_, rfl⟩
              rw [dn (fun h => h.elim c fun h => c3 h.2)]
              rfl
          · repeat walk_at "rd"
            refine ⟨?_, rfl⟩
            rw [dn (fun h => h.elim c fun h => c2 h.1)]
            rfl
      rintro σ' H3 ⟨rfl, rfl⟩
      repeat walk_at "rd"
      refine iD (fun c => ?_) (fun c => ?_)
      · repeat walk_at "rd"
        refine ⟨s, rfl, hs, fun x H' s2 n2 h2 => ?_⟩
        refine q x H' (s1.trans s2) (s1.free n2) ?_
        unfold nearM
        rw [if_neg z, if_pos c]
        exact h2
      · repeat walk_at "rd"
        refine u_Float (.inl ⟨wh t b, rfl, wh_nn ht hb, hs, wh_fits ht hb (Int.not_lt.mp c), rfl⟩) fun x H' s2 n2 h2 => ?_
        refine q x H' (s1.trans s2) (s1.free n2) ?_
        unfold nearM
        rw [if_neg z, if_neg c]
        exact h2
end
end Nu

set_option Elab.async false
set_option linter.all false
set_option maxRecDepth 100000
set_option autoImplicit false
set_option maxHeartbeats 4000000
namespace Nu
open PySem PySem.Spec PyProof.Rows L2 Rd
local macro_rules | `(tactic| walk_at "hp") => `(tactic| first | assumption | (refine same_get ?sm ?_; (case sm => assumption); walk_at "hp"))
local macro_rules | `(tactic| walk_at "rd") => `(tactic| first
  | with_reducible refine w_nx ?_
  | with_reducible refine w_rt ?_
  | with_reducible refine w_bk ?_
  | with_reducible refine w_ct ?_
  | with_reducible refine w_seq ?_
  | with_reducible refine w_next ?_
  | with_reducible refine w_ret ?_
  | with_reducible refine w_ifS ?_
  | with_reducible refine w_asg ?_
  | with_reducible refine w_name ?_
  | with_reducible refine w_par ?_
  | with_reducible refine w_parI ?_
  | with_reducible refine w_ii ?_
  | with_reducible refine w_i1 ?_
  | with_reducible refine w_drop ?_
  | with_reducible refine w_sFld ?_
  | ((with_reducible refine' w_var ?rdh ?_); (case rdh => exact rfl))
  | with_reducible refine w_c ?_
  | with_reducible refine w_op ?_
  | with_reducible refine w_un ?_
  | with_reducible refine w_I0 ?_
  | with_reducible refine w_U ?_
  | with_reducible refine w_bits ?_
  | with_reducible refine w_bitsI ?_
  | with_reducible refine w_tup ?_
  | with_reducible refine w_lst ?_
  | with_reducible refine w_nil ?_
  | with_reducible refine w_cons ?_
  | with_reducible refine w_fld ?_
  | with_reducible refine w_call ?_
  | with_reducible refine w_make ?_
  | with_reducible refine w_makeD ?_
  | with_reducible refine w_nn ?_
  | with_reducible refine w_subB ?_
  | with_reducible refine w_meth ?_
  | with_reducible refine w_cb ?_
  | with_reducible refine w_test ?_
  | with_reducible refine w_B ?_
  | with_reducible refine w_bl ?_
  | with_reducible refine w_andV ?_
  | with_reducible refine w_orV ?_
  | with_reducible refine w_notV ?_
  | with_reducible refine w_and ?_
  | with_reducible refine w_or ?_
  | with_reducible refine w_not ?_
  | with_reducible refine w_if ?_
  | with_reducible refine w_gnil ?_
  | with_reducible refine w_gcons ?_
  | with_reducible refine iT ?_
  | with_reducible refine iF ?_
  | with_reducible refine w_eqI ?_
  | with_reducible refine w_neI ?_
  | with_reducible refine w_eqS ?_
  | with_reducible refine w_eqIS ?_
  | with_reducible refine w_eqSI ?_)

section
variable {P : Program} {w : World} {K : PySem.W.Frag} {mg : Str → Option Value} {base : Heap} {CF : Addr}
/-! ### is_finite, ratio -/
def Fl.isFin : Fl → Bool
  | .fin _ _ _ => true
  | _ => false
theorem Fl.ty (f : Fl) (K : PySem.W.Frag) (H : Hp) : ∃ t, TyX K H f.t t ∧ PySem.W.kitOne K t (.type "int") = some f.isFin := by
  cases f with
  | fin s t p => exact ⟨_, .base (.int t), kit_ty (r := true) (by decide +kernel)⟩
  | inf s => exact ⟨_, .base (.str _), kit_ty (r := false) (by decide +kernel)⟩
  | nan => exact ⟨_, .base (.str _), kit_ty (r := false) (by decide +kernel)⟩
def spFinite (CF : Addr) : Sp := fun vs H Q _ => ∃ a f, vs = [.ref a] ∧ FlAt CF H a f ∧ Q (.bl f.isFin) H
theorem sc_Float_is_finite : FnScope ["self"] ["self"] (defScope s_Float_is_finite) := ⟨rfl, rfl, rfl, by decide +kernel, rfl, by decide +kernel, by decide +kernel⟩
theorem ok_is_finite (T : All K mg CF) : KnM P w K mg base CX0 1 CF "is_finite" ["self"] (spFinite CF) := by
  refine T.x_is_finite.kn fun f fd F => ?_
  refine F.ok sc_Float_is_finite (fun vs H Q E h => ?_) (fun cdv A outer s H vs Q E hr h => ?_)
  · obtain ⟨a, f, rfl, _⟩ := h
    rfl
  · obtain ⟨a, f, rfl, ⟨dx, h1⟩, q⟩ := h
    refine ⟨_, (pss_one (ps_ret (pe_callB call_isi (by rfl) T.b_isinstance boot_isinstance (pa_cons (pe_fld (pv 0) rfl) (pa_cons (pe_bltn (by rfl) T.b_int boot_int (rty _)) pa_nil))))), ?_⟩
    repeat walk_at "rd"
    refine w_fldI h1 T.l_Float T.n_top (flds_t _ _ _) ?_
    repeat walk_at "rd"
    obtain ⟨t, ty, k⟩ := f.ty K H
    refine w_isi (.ty "int") ty k ?_
    repeat walk_at "rd"
    exact q
/-- top and bottom of a finite float -/
def ratT (s t p : Int) : Int := if p < 0 then s * t else s * (t * 2 ^ p.toNat)
def ratB (p : Int) : Int := if p < 0 then 2 ^ (0 - p).toNat else 1
def spRatio (CF : Addr) : Sp := fun vs H Q _ => ∃ a s t p, vs = [.ref a] ∧ FlAt CF H a (.fin s t p) ∧ (Fl.fin s t p).ok ∧
  ∀ q H', Same H H' → H q = none → H' q = some (.tup [.int (ratT s t p), .int (ratB p)]) → Q (.ref q) H'
theorem ok_bounds {s t p : Int} (h : (Fl.fin s t p).ok) : bits s ≤ 1 ∧ bits t ≤ 53 ∧ -1074 ≤ p ∧ p ≤ 1023 ∧ 0 ≤ t ∧ bits t + p ≤ 1024 := by
  obtain ⟨hs, h0, h1, h2, h3⟩ := h
  have b1 : bits s ≤ 1 := by rcases hs with rfl | rfl <;> decide
  have b2 : bits t ≤ ((53 : Nat) : Int) := (bits_lt_pow h0).2 (by rw [← pow53]; exact h1)
  by_cases z : t = 0
  · have := h2 z
    subst z
    rw [bits_zero]
    omega
  · obtain ⟨h4, h5, h6⟩ := h3 z
    have : 0 < Builtin.Int.intBits t := bits_pos (by omega)
    have e : bits t = (Builtin.Int.intBits t : Nat) := rfl
    omega
theorem sc_Float_ratio : FnScope ["self"] ["self"] (defScope s_Float_ratio) := ⟨rfl, rfl, rfl, by decide +kernel, rfl, by decide +kernel, by decide +kernel⟩
theorem ok_ratio (T : All K mg CF) : KnM P w K mg base CX0 1 CF "ratio" ["self"] (spRatio CF) := by
  refine T.x_ratio.kn fun f fd F => ?_
  refine F.ok sc_Float_ratio (fun vs H Q E h => ?_) (fun cdv A outer s H vs Q E hr h => ?_)
  · obtain ⟨a, s, t, p, rfl, _⟩ := h
    rfl
  · obtain ⟨a, s, t, p, rfl, ⟨dx, h1⟩, ok, q⟩ := h
    obtain ⟨bs, bt, p1, p2, t0, tp⟩ := ok_bounds ok
    refine ⟨_, (pss_cons (ps_if (pt_cmpR op_lt (pe_fld (pv 0) rfl) pe_int (nomark _)) (pss_one (ps_ret (pe_tup (pa_cons (pe_op op_mulX (pe_fld (pv 0) rfl) (pe_fld (pv 0) rfl)) (pa_cons (pe_op op_shlW pe_int (pe_op op_sub pe_int (pe_fld (pv 0) rfl))) pa_nil))))) pss_nil)
      (pss_one (ps_ret (pe_tup (pa_cons (pe_op op_mulX (pe_fld (pv 0) rfl) (pe_op op_shlW (pe_fld (pv 0) rfl) (pe_fld (pv 0) rfl))) (pa_cons pe_int pa_nil)))))), ?_⟩
    repeat walk_at "rd"
    refine w_fldI h1 T.l_Float T.n_power (flds_p _ _ _) ?_
    repeat walk_at "rd"
    refine iD (fun c => ?_) (fun c => ?_)
    · have c' : p < 0 := c
      repeat walk_at "rd"
      refine w_fldI h1 T.l_Float T.n_sign (flds_s _ _ _) ?_
      repeat walk_at "rd"
      refine w_fldI h1 T.l_Float T.n_top (flds_t _ _ _) ?_
      refine w_I (cmulx (i := s) (j := t) (by omega) (by omega)) ?_
      repeat walk_at "rd"
      refine w_fldI h1 T.l_Float T.n_power (flds_p _ _ _) ?_
      repeat walk_at "rd"
      refine w_I (cshl (i := 1) (j := 0 - p) (by decide) (by omega) (by omega)) ?_
      repeat walk_at "rd"
      refine w_tup2 fun a2 H2 s2 n2 h2 => ?_
      repeat walk_at "rd"
      refine q a2 H2 s2 n2 ?_
      rw [h2]
      unfold ratT ratB
      rw [if_pos c', if_pos c', Int.one_mul] <;> rfl
    · have c' : ¬ p < 0 := c
      repeat walk_at "rd"
      refine w_fldI h1 T.l_Float T.n_sign (flds_s _ _ _) ?_
      repeat walk_at "rd"
      refine w_fldI h1 T.l_Float T.n_top (flds_t _ _ _) ?_
      repeat walk_at "rd"
      refine w_fldI h1 T.l_Float T.n_power (flds_p _ _ _) ?_
      refine w_I (cshl (i := t) (j := p) (by omega) (by omega) (by omega)) ?_
      refine w_I (cmulx (i := s) (j := t * 2 ^ p.toNat) (by omega) (by have := bits_mul_pow t0 p.toNat; omega)) ?_
      repeat walk_at "rd"
      refine w_tup2 fun a2 H2 s2 n2 h2 => ?_
      repeat walk_at "rd"
      refine q a2 H2 s2 n2 ?_
      rw [h2]
      unfold ratT ratB
      rw [if_neg c', if_neg c'] <;> rfl
/-! ### is_number, to_float -/
def spNumber (K : PySem.W.Frag) (CF : Addr) : Sp := fun vs H Q _ => ∃ x pl bo st fl, vs = [x] ∧ Says K CF H x pl bo st fl ∧ Q (.bl (fl || ((pl || bo) && !bo))) H
theorem sc_is_number : FnScope ["thing"] ["thing"] (defScope s_is_number) := ⟨rfl, rfl, rfl, by decide +kernel, rfl, by decide +kernel, by decide +kernel⟩
theorem ok_is_number (T : All K mg CF) (k_is_plain : Kn P w K mg base CX0 1 "is_plain" ["number"] (spPlain K CF)) : Kn P w K mg base CX0 2 "is_number" ["thing"] (spNumber K CF) := by
  refine T.x_is_number.kn fun f fd F => ?_
  refine F.ok sc_is_number (fun vs H Q E h => ?_) (fun cdv A outer s H vs Q E hr h => ?_)
  · obtain ⟨x, pl, bo, st, fl, rfl, _⟩ := h
    rfl
  · obtain ⟨x, pl, bo, st, fl, rfl, sy, q⟩ := h
    obtain ⟨t, ty, i1, i2, i3, i4⟩ := id sy
    refine ⟨_, (pss_one (ps_ret (pe_or (pe_callB call_isi (by rfl) T.b_isinstance boot_isinstance (pa_cons (pv 0) (pa_cons (pg "Float" T.g_Float (rref _)) pa_nil))) (pe_one (pk k_is_plain hr (pa_cons (pv 0) pa_nil)))))), ?_⟩
    repeat walk_at "rd"
    refine w_isi (.own CF) ty i4 ?_
    repeat walk_at "rd"
    refine iB (fun e => ?_) (fun e => ?_)
    · rw [e] at q
      repeat walk_at "rd"
      exact q
    · rw [e] at q
      repeat walk_at "rd"
      exact ⟨x, pl, bo, st, fl, rfl, sy, q⟩
/-- a float is itself; an int of 64 bits the nearest -/
def spToF (K : PySem.W.Frag) (CF : Addr) : Sp := fun vs H Q _ => (∃ a f, vs = [.ref a] ∧ FlAt CF H a f ∧ Q (.ref a) H) ∨
  (∃ i, vs = [.int i] ∧ bits i ≤ 2000 ∧ NewF CF (nearM (if i < 0 then -1 else 1) (if i < 0 then -i else i) 1) H Q)
theorem sc_to_float : FnScope ["number"] ["number"] (defScope s_to_float) := ⟨rfl, rfl, rfl, by decide +kernel, rfl, by decide +kernel, by decide +kernel⟩
theorem ok_to_float (T : All K mg CF) (k_sign_of : Kn P w K mg base CX0 1 "sign_of" ["is_negative"] spSign) (k_nearest : Kn P w K mg base CX0 5 "nearest" ["sign", "top", "bottom"] (spNear CF)) : Kn P w K mg base CX0 6 "to_float" ["number"] (spToF K CF) := by
  refine T.x_to_float.kn fun f fd F => ?_
  refine F.ok sc_to_float (fun vs H Q E h => ?_) (fun cdv A outer s H vs Q E hr h => ?_)
  · rcases h with ⟨a, f, rfl, _⟩ | ⟨i, rfl, _⟩ <;> rfl
  · refine ⟨_, (pss_cons (ps_if (pt_val (pe_callB call_isi (by rfl) T.b_isinstance boot_isinstance (pa_cons (pv 0) (pa_cons (pg "Float" T.g_Float (rref _)) pa_nil)))) (pss_one (ps_ret (pv 0))) pss_nil)
      (pss_one (ps_ret (pk k_nearest hr (pa_cons (pk k_sign_of hr (pa_cons (pe_cmpR op_lt (pv 0) pe_int (nomark _)) pa_nil)) (pa_cons (pe_callB call_abs (by rfl) T.b_abs boot_abs (pa_cons (pv 0) pa_nil)) (pa_cons pe_int pa_nil))))))), ?_⟩
    rcases h with ⟨a, f, rfl, ⟨dx, h1⟩, q⟩ | ⟨i, rfl, hb, q⟩
    · obtain ⟨t, ty, i1, i2, i3, i4⟩ := says_fl T h1
      repeat walk_at "rd"
      refine w_isi (.own CF) ty i4 ?_
      repeat walk_at "rd"
      exact q
    · obtain ⟨t, ty, i1, i2, i3, i4⟩ := says_int (i := i) (H := H) T
      repeat walk_at "rd"
      refine w_isi (.own CF) ty i4 ?_
      repeat walk_at "rd"
      refine ⟨_, rfl, ?_⟩
      repeat walk_at "rd"
      refine ⟨_, _, _, rfl, ?_, ?_, by decide, ?_, by decide, ?_⟩
      · by_cases c : i < 0
        · rw [decide_eq_true c, if_pos rfl]; exact .inr rfl
        · rw [decide_eq_false c, if_neg Bool.false_ne_true]; exact .inl rfl
      · split <;> omega
      · have e : bits (if i < 0 then -i else i) = bits i := by
          split
          · exact congrArg Nat.cast (by unfold Builtin.Int.intBits; simp)
          · rfl
        rw [e]
        omega
      · have e : (if decide (i < 0) = true then (-1 : Int) else 1) = (if i < 0 then -1 else 1) := by
          by_cases c : i < 0
          · rw [decide_eq_true c, if_pos rfl, if_pos c]
          · rw [decide_eq_false c, if_neg Bool.false_ne_true, if_neg c]
        rw [e]
        exact q
theorem lk_fin (s : Int) (t : V) (p : Int) : (flds s t p).lookup ("is_finite" : Str) = none := flds_no s t p (by decide +kernel) (by decide +kernel) (by decide +kernel)
theorem lk_rat (s : Int) (t : V) (p : Int) : (flds s t p).lookup ("ratio" : Str) = none := flds_no s t p (by decide +kernel) (by decide +kernel) (by decide +kernel)
end
end Nu

set_option Elab.async false
set_option linter.all false
set_option maxRecDepth 100000
set_option autoImplicit false
set_option maxHeartbeats 4000000
namespace Nu
open PySem PySem.Spec PyProof.Rows L2 Rd
local macro_rules | `(tactic| walk_at "hp") => `(tactic| first | assumption | (refine same_get ?sm ?_; (case sm => assumption); walk_at "hp"))
local macro_rules | `(tactic| walk_at "rd") => `(tactic| first
  | with_reducible refine w_nx ?_
  | with_reducible refine w_rt ?_
  | with_reducible refine w_bk ?_
  | with_reducible refine w_ct ?_
  | with_reducible refine w_seq ?_
  | with_reducible refine w_next ?_
  | with_reducible refine w_ret ?_
  | with_reducible refine w_ifS ?_
  | with_reducible refine w_asg ?_
  | with_reducible refine w_name ?_
  | with_reducible refine w_par ?_
  | with_reducible refine w_parI ?_
  | with_reducible refine w_ii ?_
  | with_reducible refine w_i1 ?_
  | with_reducible refine w_drop ?_
  | with_reducible refine w_sFld ?_
  | ((with_reducible refine' w_var ?rdh ?_); (case rdh => exact rfl))
  | with_reducible refine w_c ?_
  | with_reducible refine w_op ?_
  | with_reducible refine w_un ?_
  | with_reducible refine w_I0 ?_
  | with_reducible refine w_U ?_
  | with_reducible refine w_bits ?_
  | with_reducible refine w_bitsI ?_
  | with_reducible refine w_tup ?_
  | with_reducible refine w_lst ?_
  | with_reducible refine w_nil ?_
  | with_reducible refine w_cons ?_
  | with_reducible refine w_fld ?_
  | with_reducible refine w_call ?_
  | with_reducible refine w_make ?_
  | with_reducible refine w_makeD ?_
  | with_reducible refine w_nn ?_
  | with_reducible refine w_subB ?_
  | with_reducible refine w_meth ?_
  | with_reducible refine w_cb ?_
  | with_reducible refine w_test ?_
  | with_reducible refine w_B ?_
  | with_reducible refine w_bl ?_
  | with_reducible refine w_andV ?_
  | with_reducible refine w_orV ?_
  | with_reducible refine w_notV ?_
  | with_reducible refine w_and ?_
  | with_reducible refine w_or ?_
  | with_reducible refine w_not ?_
  | with_reducible refine w_if ?_
  | with_reducible refine w_gnil ?_
  | with_reducible refine w_gcons ?_
  | with_reducible refine iT ?_
  | with_reducible refine iF ?_
  | with_reducible refine w_eqI ?_
  | with_reducible refine w_neI ?_
  | with_reducible refine w_eqS ?_
  | with_reducible refine w_eqIS ?_
  | with_reducible refine w_eqSI ?_)

/-! ### numbers -/
inductive Nm where
  | int (i : Int)
  | fl (f : Fl)
def NmAt (CF : Addr) (H : Hp) (x : V) : Nm → Prop
  | .int i => x = .int i ∧ bits i ≤ 70
  | .fl f => ∃ a, x = .ref a ∧ FlAt CF H a f ∧ f.ok
theorem NmAt.same {CF : Addr} {H H' : Hp} {x : V} : ∀ {n : Nm}, NmAt CF H x n → Same H H' → NmAt CF H' x n
  | .int _, h, _ => h
  | .fl _, ⟨a, e, h, o⟩, s => ⟨a, e, h.same s, o⟩
def place : Nm → Option (Int × Int)
  | .int i => some (i, 1)
  | .fl (.fin s t p) => some (ratT s t p, ratB p)
  | .fl (.inf s) => some (s * 2 ^ 1025, 1)
  | .fl .nan => none
theorem bits_mul (a b : Int) : bits (a * b) ≤ bits a + bits b := by
  have := intBits_mul_le (x := a) (y := b) (m := Builtin.Int.intBits a) (n := Builtin.Int.intBits b) (Nat.le_refl _) (Nat.le_refl _)
  unfold bits
  omega
theorem bits_pow (k : Nat) : bits (2 ^ k) = k + 1 := bits_eq (Int.le_refl _) (by rw [Int.pow_succ]; have := pow_pos2 k; omega)
theorem ratT_bits {s t p : Int} (h : (Fl.fin s t p).ok) : bits (ratT s t p) ≤ 1200 := by
  obtain ⟨bs, bt, p1, p2, t0, tp⟩ := ok_bounds h
  unfold ratT
  split
  · have := bits_mul s t; omega
  · have h1 := bits_mul s (t * 2 ^ p.toNat)
    have h2 := bits_mul_pow t0 p.toNat
    omega
theorem ratB_bits {s t p : Int} (h : (Fl.fin s t p).ok) : bits (ratB p) ≤ 1200 := by
  obtain ⟨bs, bt, p1, p2, t0, tp⟩ := ok_bounds h
  unfold ratB
  split
  · rw [bits_pow]; omega
  · decide
theorem ratB_pos (p : Int) : 0 < ratB p := by
  unfold ratB
  split
  · exact pow_pos2 _
  · decide
theorem place_bits {CF : Addr} {H : Hp} {x : V} {n : Nm} {a b : Int} (h : NmAt CF H x n) (e : place n = some (a, b)) : bits a ≤ 1200 ∧ bits b ≤ 1200 := by
  match n, h, e with
  | .int i, h, e =>
    cases e
    exact ⟨by have := h.2; omega, by decide⟩
  | .fl (.fin s t p), ⟨_, _, _, ok⟩, e =>
    cases e
    exact ⟨ratT_bits ok, ratB_bits ok⟩
  | .fl (.inf s), ⟨_, _, _, ok⟩, e =>
    cases e
    refine ⟨?_, by decide⟩
    have h1 := bits_mul s (2 ^ 1025)
    rw [bits_pow] at h1
    have h2 : bits s ≤ 1 := by rcases (show s = 1 ∨ s = -1 from ok) with rfl | rfl <;> decide
    omega
  | .fl .nan, _, e => cases e
section
variable {P : Program} {w : World} {K : PySem.W.Frag} {mg : Str → Option Value} {base : Heap} {CF : Addr}
theorem NmAt.says (T : All K mg CF) {H : Hp} {x : V} {n : Nm} (h : NmAt CF H x n) : ∃ pl fl, Says K CF H x pl false false fl ∧ (fl || ((pl || false) && !false)) = true ∧ (fl = match n with | .int _ => false | .fl _ => true) := by
  cases n with
  | int i =>
    obtain ⟨rfl, _⟩ := h
    exact ⟨true, false, says_int T, rfl, rfl⟩
  | fl f =>
    obtain ⟨a, rfl, ⟨dx, e⟩, _⟩ := h
    exact ⟨false, true, says_fl T e, rfl, rfl⟩
/-- the place of a number as a fraction -/
def spPlace (CF : Addr) : Sp := fun vs H Q _ => ∃ x n, vs = [x] ∧ NmAt CF H x n ∧ (place n = none → Q .non H) ∧
  ∀ a b, place n = some (a, b) → ∀ q H', Same H H' → H' q = some (.tup [.int a, .int b]) → Q (.ref q) H'
theorem sc_place_of : FnScope ["number"] ["number"] (defScope s_place_of) := ⟨rfl, rfl, rfl, by decide +kernel, rfl, by decide +kernel, by decide +kernel⟩
theorem ok_place (T : All K mg CF) (k_Float_is_finite : KnM P w K mg base CX0 1 CF "is_finite" ["self"] (spFinite CF)) (k_Float_ratio : KnM P w K mg base CX0 1 CF "ratio" ["self"] (spRatio CF)) : Kn P w K mg base CX0 2 "place_of" ["number"] (spPlace CF) := by
  refine T.x_place.kn fun f fd F => ?_
  refine F.ok sc_place_of (fun vs H Q E h => ?_) (fun cdv A outer s H vs Q E hr h => ?_)
  · obtain ⟨x, n, rfl, _⟩ := h
    rfl
  · obtain ⟨x, n, rfl, hn, q0, q1⟩ := h
    refine ⟨_, (pss_cons (ps_if (pt_not (pt_val (pe_callB call_isi (by rfl) T.b_isinstance boot_isinstance (pa_cons (pv 0) (pa_cons (pg "Float" T.g_Float (rref _)) pa_nil))))) (pss_one (ps_ret (pe_tup (pa_cons (pv 0) (pa_cons pe_int pa_nil))))) pss_nil)
      (pss_cons (ps_if (pt_val (pkM0 k_Float_is_finite T.l_Float hr (pv 0) rfl)) (pss_one (ps_ret (pkM0 k_Float_ratio T.l_Float hr (pv 0) rfl))) pss_nil)
      (pss_one (ps_ret (pe_ifExp (pt_cmpR op_eq (pe_fld (pv 0) rfl) pe_str (nomark _)) pe_non (pe_tup (pa_cons (pe_op op_shlW (pe_fld (pv 0) rfl) (pe_op op_add (pgE "TOO_GREAT" T.c_TOO_GREAT) pe_int)) (pa_cons pe_int pa_nil)))))))), ?_⟩
    obtain ⟨pl, fl, ⟨t, ty, i1, i2, i3, i4⟩, _, efl⟩ := hn.says T
    repeat walk_at "rd"
    refine w_isi (.own CF) ty i4 ?_
    repeat walk_at "rd"
    cases n with
    | int i =>
      obtain ⟨rfl, hb⟩ := hn
      subst efl
      refine iT ?_
      repeat walk_at "rd"
      refine w_tup2 fun a2 H2 s2 n2 h2 => ?_
      exact q1 i 1 rfl a2 H2 s2 h2
    | fl f =>
      obtain ⟨a, rfl, ha, ok⟩ := hn
      obtain ⟨dx, h1⟩ := id ha
      subst efl
      refine iF ?_
      repeat walk_at "rd"
      refine w_methI h1 (lk_fin _ _ _) ?_
      repeat walk_at "rd"
      refine ⟨a, f, rfl, ha, ?_⟩
      repeat walk_at "rd"
      cases f with
      | fin s t p =>
        refine iT ?_
        repeat walk_at "rd"
        refine w_methI h1 (lk_rat _ _ _) ?_
        repeat walk_at "rd"
        refine ⟨a, s, t, p, rfl, ha, ok, fun q H2 s2 n2 h2 => ?_⟩
        exact q1 _ _ rfl q H2 s2 h2
      | inf s =>
        refine iF ?_
        repeat walk_at "rd"
        refine w_fldI h1 T.l_Float T.n_top (flds_t _ _ _) ?_
        repeat walk_at "rd"
        refine w_eqS ?_
        repeat walk_at "rd"
        refine iD (fun z => absurd z (by decide +kernel)) (fun _ => ?_)
        repeat walk_at "rd"
        refine w_fldI h1 T.l_Float T.n_sign (flds_s _ _ _) ?_
        repeat walk_at "rd"
        refine w_I (cshl (i := s) (j := 1024 + 1) (by rcases (show s = 1 ∨ s = -1 from ok) with rfl | rfl <;> decide) (by decide) (by decide)) ?_
        repeat walk_at "rd"
        refine w_tup2 fun a2 H2 s2 n2 h2 => ?_
        repeat walk_at "rd"
        exact q1 _ _ rfl a2 H2 s2 h2
      | nan =>
        refine iF ?_
        repeat walk_at "rd"
        refine w_fldI h1 T.l_Float T.n_top (flds_t _ _ _) ?_
        repeat walk_at "rd"
        refine w_eqS ?_
        repeat walk_at "rd"
        refine iD (fun _ => ?_) (fun z => absurd rfl z)
        repeat walk_at "rd"
        exact q0 rfl
/-! ### order_of -/
def gap (a b : Int × Int) : Int := a.1 * b.2 - b.1 * a.2
def sgnV (g : Int) : Int := (if 0 < g then 1 else 0) - (if g < 0 then 1 else 0)
def ordV (n m : Nm) : V := match place n, place m with
  | some a, some b => .int (sgnV (gap a b))
  | _, _ => .non
def spOrder (CF : Addr) : Sp := fun vs H Q _ => ∃ x y n m, vs = [x, y] ∧ NmAt CF H x n ∧ NmAt CF H y m ∧ ∀ H', Same H H' → Q (ordV n m) H'
/-- what place_of hands back, for reading on -/
def PlV (H : Hp) (v : V) (r : Option (Int × Int)) : Prop := match r with
  | none => v = .non
  | some (a, b) => ∃ q, v = .ref q ∧ H q = some (.tup [.int a, .int b])
theorem PlV.same {H H' : Hp} {v : V} {r : Option (Int × Int)} (h : PlV H v r) (s : Same H H') : PlV H' v r := by
  cases r with
  | none => exact h
  | some ab =>
    obtain ⟨q, e, hq⟩ := h
    exact ⟨q, e, s _ _ hq⟩
theorem u_place {x : V} {n : Nm} {H : Hp} {Q : VK} {E : XK} (h : NmAt CF H x n) (q : ∀ v H', Same H H' → PlV H' v (place n) → Q v H') : spPlace CF ([x] ++ []) H Q E := by
  refine ⟨x, n, rfl, h, fun e => q .non H (Same.refl H) ?_, fun a b e p H' s hp => q (.ref p) H' s ?_⟩
  · rw [e]; rfl
  · rw [e]; exact ⟨p, rfl, hp⟩
theorem sc_order_of : FnScope ["one", "other", "first", "second", "gap"] ["one", "other"] (defScope s_order_of) := ⟨rfl, rfl, rfl, by decide +kernel, rfl, by decide +kernel, by decide +kernel⟩
theorem ok_order (T : All K mg CF) (k_place_of : Kn P w K mg base CX0 2 "place_of" ["number"] (spPlace CF)) : Kn P w K mg base CX0 3 "order_of" ["one", "other"] (spOrder CF) := by
  refine T.x_order.kn fun f fd F => ?_
  refine F.ok sc_order_of (fun vs H Q E h => ?_) (fun cdv A outer s H vs Q E hr h => ?_)
  · obtain ⟨x, y, n, m, rfl, _⟩ := h
    rfl
  · obtain ⟨x, y, n, m, rfl, hn, hm, q⟩ := h
    refine ⟨_, (pss_cons (ps_par (by rfl) sc_order_of.nd (i := 2) (j := 3) rfl rfl (by decide) rfl rfl (pa_cons (pk k_place_of hr (pa_cons (pv 0) pa_nil)) (pa_cons (pk k_place_of hr (pa_cons (pv 1) pa_nil)) pa_nil)) (by rfl))
      (pss_cons (ps_if (PW.pt (pw_or (pt_cmpR op_isN (pv 2) pe_non (nomark _)) (pw_or1 (pt_cmpR op_isN (pv 3) pe_non (nomark _))))) (pss_one (ps_ret pe_non)) pss_nil)
      (pss_cons (ps_set (i := 4) sc_order_of.nd rfl (Or.inl rfl) (pe_op op_sub (pe_op op_mulX (pe_ix ix_tup (pv 2) pe_int (fun _ _ => rfl)) (pe_ix ix_tup (pv 3) pe_int (fun _ _ => rfl))) (pe_op op_mulX (pe_ix ix_tup (pv 3) pe_int (fun _ _ => rfl)) (pe_ix ix_tup (pv 2) pe_int (fun _ _ => rfl)))))
      (pss_one (ps_ret (pe_op op_sub_bb (pe_cmpR op_gt (pv 4) pe_int (nomark _)) (pe_cmpR op_lt (pv 4) pe_int (nomark _)))))))), ?_⟩
    repeat walk_at "rd"
    refine u_place hn fun v1 H1 s1 p1 => ?_
    repeat walk_at "rd"
    refine u_place (hm.same s1) fun v2 H2 s2 p2 => ?_
    have p1 := p1.same s2
    repeat walk_at "rd"
    have bn := fun a b => place_bits (a := a) (b := b) hn
    have bm := fun a b => place_bits (a := a) (b := b) hm
    unfold ordV at q
    generalize place n = r1 at p1 q bn
    generalize place m = r2 at p2 q bm
    cases r1 with
    | none =>
      obtain rfl : v1 = .non := p1
      refine iT ?_
      repeat walk_at "rd"
      exact q H2 (s1.trans s2)
    | some ab =>
      obtain ⟨q1, rfl, h1⟩ := p1
      refine iF ?_
      repeat walk_at "rd"
      cases r2 with
      | none =>
        obtain rfl : v2 = .non := p2
        refine iT ?_
        repeat walk_at "rd"
        exact q H2 (s1.trans s2)
      | some cd =>
        obtain ⟨q2, rfl, h2⟩ := p2
        obtain ⟨b1, b2⟩ := bn ab.1 ab.2 rfl
        obtain ⟨b3, b4⟩ := bm cd.1 cd.2 rfl
        refine iF ?_
        repeat walk_at "rd"
        refine w_ixT h1 (v := .int ab.1) rfl ?_
        repeat walk_at "rd"
        refine w_ixT h2 (v := .int cd.2) rfl ?_
        refine w_I (cmulx (i := ab.1) (j := cd.2) (by omega) (by omega)) ?_
        repeat walk_at "rd"
        refine w_ixT h2 (v := .int cd.1) rfl ?_
        repeat walk_at "rd"
        refine w_ixT h1 (v := .int ab.2) rfl ?_
        refine w_I (cmulx (i := cd.1) (j := ab.2) (by omega) (by omega)) ?_
        repeat walk_at "rd"
        have q' := q H2 (s1.trans s2)
        have e : sgnV (gap ab cd) = (if decide (0 < ab.1 * cd.2 - cd.1 * ab.2) = true then (1 : Int) else 0) - (if decide (ab.1 * cd.2 - cd.1 * ab.2 < 0) = true then (1 : Int) else 0) := by
          unfold sgnV gap
          simp only [decide_eq_true_eq]
        simp only at q'
        rw [e] at q'
        exact q'
/-! ### compare -/
def cmpV (w : Str) (n m : Nm) : Bool := match ordV n m with
  | .int g => if w = "lt" then decide (g < 0) else decide (g ≤ 0)
  | _ => false
def spCompare (CF : Addr) : Sp := fun vs H Q _ => ∃ w x y n m, vs = [.str w, x, y] ∧ NmAt CF H x n ∧ NmAt CF H y m ∧ ∀ H', Same H H' → Q (.bl (cmpV w n m)) H'
theorem ordV_cases (n m : Nm) : ordV n m = .non ∨ ∃ g, ordV n m = .int g := by
  unfold ordV
  cases place n <;> cases place m <;> first | exact .inl rfl | exact .inr ⟨_, rfl⟩
theorem sc_compare : FnScope ["word", "one", "other", "order"] ["word", "one", "other"] (defScope s_compare) := ⟨rfl, rfl, rfl, by decide +kernel, rfl, by decide +kernel, by decide +kernel⟩
theorem ok_compare (T : All K mg CF) (k_order_of : Kn P w K mg base CX0 3 "order_of" ["one", "other"] (spOrder CF)) : Kn P w K mg base CX0 4 "compare" ["word", "one", "other"] (spCompare CF) := by
  refine T.x_compare.kn fun f fd F => ?_
  refine F.ok sc_compare (fun vs H Q E h => ?_) (fun cdv A outer s H vs Q E hr h => ?_)
  · obtain ⟨w, x, y, n, m, rfl, _⟩ := h
    rfl
  · obtain ⟨w, x, y, n, m, rfl, hn, hm, q⟩ := h
    refine ⟨_, (pss_cons (ps_set (i := 3) sc_compare.nd rfl (Or.inl rfl) (pk k_order_of hr (pa_cons (pv 1) (pa_cons (pv 2) pa_nil))))
      (pss_cons (ps_if (pt_cmpR op_isN (pv 3) pe_non (nomark _)) (pss_one (ps_ret pe_bl)) pss_nil)
      (pss_one (ps_ret (pe_ifExp (pt_cmpR op_eq (pv 0) pe_str (nomark _)) (pe_cmpR op_lt (pv 3) pe_int (nomark _)) (pe_cmpR op_le (pv 3) pe_int (nomark _))))))), ?_⟩
    repeat walk_at "rd"
    refine ⟨x, y, n, m, rfl, hn, hm, fun H1 s1 => ?_⟩
    have q' := q H1 s1
    unfold cmpV at q'
    repeat walk_at "rd"
    rcases ordV_cases n m with e | ⟨g, e⟩
    · rw [e] at q' ⊢
      refine iT ?_
      repeat walk_at "rd"
      exact q'
    · rw [e] at q' ⊢
      refine iF ?_
      repeat walk_at "rd"
      simp only at q'
      refine iD (fun c => ?_) (fun c => ?_)
      · rw [if_pos c] at q'
        repeat walk_at "rd"
        exact q'
      · rw [if_neg c] at q'
        repeat walk_at "rd"
        exact q'
end
end Nu

set_option Elab.async false
set_option linter.all false
set_option maxRecDepth 100000
set_option autoImplicit false
set_option maxHeartbeats 4000000
namespace Nu
open PySem PySem.Spec PyProof.Rows L2 Rd
local macro_rules | `(tactic| walk_at "hp") => `(tactic| first | assumption | (refine same_get ?sm ?_; (case sm => assumption); walk_at "hp"))
local macro_rules | `(tactic| walk_at "rd") => `(tactic| first
  | with_reducible refine w_nx ?_
  | with_reducible refine w_rt ?_
  | with_reducible refine w_bk ?_
  | with_reducible refine w_ct ?_
  | with_reducible refine w_seq ?_
  | with_reducible refine w_next ?_
  | with_reducible refine w_ret ?_
  | with_reducible refine w_ifS ?_
  | with_reducible refine w_asg ?_
  | with_reducible refine w_name ?_
  | with_reducible refine w_par ?_
  | with_reducible refine w_parI ?_
  | with_reducible refine w_ii ?_
  | with_reducible refine w_i1 ?_
  | with_reducible refine w_drop ?_
  | with_reducible refine w_sFld ?_
  | ((with_reducible refine' w_var ?rdh ?_); (case rdh => exact rfl))
  | with_reducible refine w_c ?_
  | with_reducible refine w_op ?_
  | with_reducible refine w_un ?_
  | with_reducible refine w_I0 ?_
  | with_reducible refine w_U ?_
  | with_reducible refine w_bits ?_
  | with_reducible refine w_bitsI ?_
  | with_reducible refine w_tup ?_
  | with_reducible refine w_lst ?_
  | with_reducible refine w_nil ?_
  | with_reducible refine w_cons ?_
  | with_reducible refine w_fld ?_
  | with_reducible refine w_call ?_
  | with_reducible refine w_make ?_
  | with_reducible refine w_gsub ?_
  | with_reducible refine w_int1 ?_
  | with_reducible refine w_intB ?_
  | with_reducible refine w_for ?_
  | with_reducible refine w_rng1 ?_
  | with_reducible refine w_iList ?_
  | with_reducible refine w_iTup ?_
  | with_reducible refine w_makeD ?_
  | with_reducible refine w_nn ?_
  | with_reducible refine w_subB ?_
  | with_reducible refine w_meth ?_
  | with_reducible refine w_cb ?_
  | with_reducible refine w_test ?_
  | with_reducible refine w_B ?_
  | with_reducible refine w_bl ?_
  | with_reducible refine w_andV ?_
  | with_reducible refine w_orV ?_
  | with_reducible refine w_notV ?_
  | with_reducible refine w_and ?_
  | with_reducible refine w_or ?_
  | with_reducible refine w_not ?_
  | with_reducible refine w_if ?_
  | with_reducible refine w_gnil ?_
  | with_reducible refine w_gcons ?_
  | with_reducible refine iT ?_
  | with_reducible refine iF ?_
  | with_reducible refine w_eqI ?_
  | with_reducible refine w_neI ?_
  | with_reducible refine w_eqS ?_
  | with_reducible refine w_eqIS ?_
  | with_reducible refine w_eqSI ?_)

abbrev s_law_well : Stmt := top 42
abbrev s_law_draw : Stmt := top 43
abbrev s_law_one : Stmt := top 44
abbrev s_law_great : Stmt := top 45
structure AllL (K : PySem.W.Frag) (mg : Str → Option Value) (CF : Addr) : Prop extends All K mg CF where
  x_well : Tx K mg "_law_well" "_law_well" s_law_well ["cell"]
  x_draw : Tx K mg "_law_draw" "_law_draw" s_law_draw ["well", "many"]
  x_one : Tx K mg "_law_one" "_law_one" s_law_one ["well", "some"]
  x_great : Tx K mg "_law_great" "_law_great" s_law_great ["well", "bits"]
/-! ### the well: a list of three ints -/
structure WellD (n : Nat) (a b c : Int) : Prop where
  a0 : 0 ≤ a
  a1 : bits a ≤ 1048580
  b0 : 0 ≤ b
  b1 : b < 2147483647
  c0 : 0 ≤ c
  c1 : c ≤ n
def Well (n : Nat) (H : Hp) (w : Addr) : Prop := ∃ a b c, H w = some (.lst [.int a, .int b, .int c]) ∧ WellD n a b c
theorem Well.mono {n m : Nat} {H : Hp} {w : Addr} (h : Well n H w) (hm : n ≤ m) : Well m H w := by
  obtain ⟨a, b, c, e, d⟩ := h
  exact ⟨a, b, c, e, ⟨d.a0, d.a1, d.b0, d.b1, d.c0, by have := d.c1; omega⟩⟩
theorem Well.same {n : Nat} {H H' : Hp} {w : Addr} (h : Well n H w) (s : Same H H') : Well n H' w := by
  obtain ⟨a, b, c, e, d⟩ := h
  exact ⟨a, b, c, s _ _ e, d⟩
theorem bits_small {n : Int} {k : Nat} (h0 : 0 ≤ n) (h : n < 2 ^ k) : bits n ≤ k := (bits_lt_pow h0).2 h
theorem bits_i (n : Int) : bits n = (Builtin.Int.intBits n : Nat) := rfl
theorem cmulS {i j : Int} (h : i.natAbs < 18446744073709551616) (h' : j.natAbs < 18446744073709551616) : CMulX i j := by
  refine cmulW ?_
  have a := (bits_le (n := i) (k := 64)).2 h
  have b := (bits_le (n := j) (k := 64)).2 h'
  unfold bits at a b
  omega
section
variable {P : Program} {w : World} {K : PySem.W.Frag} {mg : Str → Option Value} {base : Heap} {CF : Addr}
def spWell : Sp := fun vs H Q _ => ∃ c, vs = [.int c] ∧ bits c ≤ 1048576 ∧ ∀ p H', Same H H' → H p = none → Well 0 H' p → Q (.ref p) H'
theorem sc_law_well : FnScope ["cell"] ["cell"] (defScope s_law_well) := ⟨rfl, rfl, rfl, by decide +kernel, rfl, by decide +kernel, by decide +kernel⟩
theorem ok_well (T : AllL K mg CF) : Kn P w K mg base CX0 1 "_law_well" ["cell"] spWell := by
  refine T.x_well.kn fun f fd F => ?_
  refine F.ok sc_law_well (fun vs H Q E h => ?_) (fun cdv A outer s H vs Q E hr h => ?_)
  · obtain ⟨c, rfl, _⟩ := h
    rfl
  · obtain ⟨c, rfl, hc, q⟩ := h
    refine ⟨_, (pss_one (ps_ret (pe_lst (pa_cons (pe_op op_mulX (pv 0) (pe_callTy call_int1 (by rfl) T.b_int boot_int (pa_cons (pe_cmpR op_ge (pv 0) (pe_op op_pow pe_int pe_int) (nomark _)) pa_nil))) (pa_cons (pe_op op_mod (pe_callTy call_int1 (by rfl) T.b_int boot_int (pa_cons (pv 0) pa_nil)) pe_int) (pa_cons pe_int pa_nil)))))), ?_⟩
    repeat walk_at "rd"
    refine w_I (cpow (by decide) (by decide) (by decide)) ?_
    repeat walk_at "rd"
    refine w_I (cmulW (by have : bits (if decide (10 ^ Int.toNat 18 ≤ c) = true then (1 : Int) else 0) ≤ 1 := by split <;> decide
                          unfold bits at this hc; omega)) ?_
    repeat walk_at "rd"
    refine w_I (by decide) ?_
    repeat walk_at "rd"
    refine w_lst3 fun p H' s n h => ?_
    refine q p H' s n ⟨_, _, _, h, ?_⟩
    by_cases g : (10 : Int) ^ Int.toNat 18 ≤ c
    · rw [decide_eq_true g, if_pos rfl, Int.mul_one]
      have : (0 : Int) < 10 ^ Int.toNat 18 := by decide
      exact ⟨by omega, by omega, Int.emod_nonneg _ (by decide), Int.emod_lt_of_pos _ (by decide), Int.le_refl _, Int.le_refl _⟩
    · rw [decide_eq_false g, if_neg Bool.false_ne_true, Int.mul_zero]
      exact ⟨Int.le_refl _, by decide, Int.emod_nonneg _ (by decide), Int.emod_lt_of_pos _ (by decide), Int.le_refl _, Int.le_refl _⟩
/-! ### a draw -/
def spDraw : Sp := fun vs H Q _ => ∃ p many n, vs = [.ref p, .int many] ∧ Well n H p ∧ n < 1000000 ∧ 0 < many ∧ bits many ≤ 64 ∧
  ∀ r H', Oth p H H' → Well (n + 1) H' p → 0 ≤ r → r < many → Q (.int r) H'
theorem sc_law_draw : FnScope ["well", "many", "digit", "number"] ["well", "many"] (defScope s_law_draw) := ⟨rfl, rfl, rfl, by decide +kernel, rfl, by decide +kernel, by decide +kernel⟩
theorem ok_draw (T : AllL K mg CF) : Kn P w K mg base CX0 1 "_law_draw" ["well", "many"] spDraw := by
  refine T.x_draw.kn fun f fd F => ?_
  refine F.ok sc_law_draw (fun vs H Q E h => ?_) (fun cdv A outer s H vs Q E hr h => ?_)
  · obtain ⟨p, many, n, rfl, _⟩ := h
    rfl
  · obtain ⟨p, many, n, rfl, ⟨a, b, c, hw, d⟩, hn, m0, m1, q⟩ := h
    refine ⟨_, (pss_cons (ps_if (pt_cmpR op_gt (pe_ix ix_list (pv 0) pe_int (fun _ _ => rfl)) pe_int (nomark _)) (pss_cons (ps_set (i := 2) sc_law_draw.nd rfl (Or.inl rfl) (pe_op op_mod (pe_callTy call_int1 (by rfl) T.b_int boot_int (pa_cons (pe_ix ix_list (pv 0) pe_int (fun _ _ => rfl)) pa_nil)) (pv 1)))
      (pss_cons (ps_asg (pe_op op_fdivW (pe_ix ix_list (pv 0) pe_int (fun _ _ => rfl)) (pv 1)) (pg_sub (pv 0) pe_int set_list))
      (pss_one (ps_ret (pv 2))))) pss_nil)
      (pss_cons (ps_asg (pe_op op_add (pe_ix ix_list (pv 0) pe_int (fun _ _ => rfl)) pe_int) (pg_sub (pv 0) pe_int set_list))
      (pss_cons (ps_set (i := 3) sc_law_draw.nd rfl (Or.inl rfl) (pe_op op_mod (pe_callTy call_int1 (by rfl) T.b_int boot_int (pa_cons (pe_op op_add (pe_op op_add (pe_op op_mulX (pe_ix ix_list (pv 0) pe_int (fun _ _ => rfl)) pe_int) (pe_op op_mulX pe_int (pe_ix ix_list (pv 0) pe_int (fun _ _ => rfl)))) pe_int) pa_nil)) pe_int))
      (pss_cons (ps_set (i := 3) sc_law_draw.nd rfl (Or.inl rfl) (pe_op op_mod (pe_callTy call_int1 (by rfl) T.b_int boot_int (pa_cons (pe_op op_mulX (pv 3) (pe_op op_add (pe_op op_fdivW (pv 3) pe_int) pe_int)) pa_nil)) pe_int))
      (pss_cons (ps_set (i := 3) sc_law_draw.nd rfl (Or.inl rfl) (pe_op op_mod (pe_callTy call_int1 (by rfl) T.b_int boot_int (pa_cons (pe_op op_mulX (pv 3) (pe_op op_add (pe_op op_add (pe_op op_fdivW (pv 3) pe_int) pe_int) (pe_ix ix_list (pv 0) pe_int (fun _ _ => rfl)))) pa_nil)) pe_int))
      (pss_one (ps_ret (pe_op op_mod (pe_callTy call_int1 (by rfl) T.b_int boot_int (pa_cons (pe_op op_fdivW (pv 3) pe_int) pa_nil)) (pv 1))))))))), ?_⟩
    obtain ⟨a0, a1, b0, b1, c0, c1⟩ := d
    repeat walk_at "rd"
    refine w_ixL hw (v := .int a) rfl ?_
    repeat walk_at "rd"
    refine iD (fun g => ?_) (fun g => ?_)
    · repeat walk_at "rd"
      refine w_ixL hw (v := .int a) rfl ?_
      repeat walk_at "rd"
      refine w_I m0 ?_
      repeat walk_at "rd"
      refine w_ixL hw (v := .int a) rfl ?_
      repeat walk_at "rd"
      refine w_I (cdivw m0 (by omega)) ?_
      repeat walk_at "rd"
      refine w_setL hw rfl ?_
      repeat walk_at "rd"
      refine q _ _ Oth.refl.put ⟨_, _, _, upd_same, ?_⟩ (Int.emod_nonneg _ (by omega)) (Int.emod_lt_of_pos _ m0)
      have e : a / many ≤ a := Int.ediv_le_self _ a0
      have e0 : 0 ≤ a / many := Int.ediv_nonneg a0 (by omega)
      exact ⟨e0, by have := bits_mono e0 e; omega, b0, b1, c0, by omega⟩
    · repeat walk_at "rd"
      refine w_ixL hw (v := .int c) rfl ?_
      repeat walk_at "rd"
      refine w_setL (j := 2) hw rfl ?_
      have hw2 := upd_same (H := H) (a := p) (o := .lst (List.set [V.int a, .int b, .int c] 2 (.int (c + 1))))
      have o2 := (Oth.refl (x := p) (H := H)).put (o := .lst (List.set [V.int a, .int b, .int c] 2 (.int (c + 1))))
      generalize upd H p (.lst (List.set [V.int a, .int b, .int c] 2 (.int (c + 1)))) = H2 at hw2 o2 ⊢
      change H2 p = some (.lst [.int a, .int b, .int (c + 1)]) at hw2
      have W2 : Well (n + 1) H2 p := ⟨_, _, _, hw2, ⟨a0, a1, b0, b1, by omega, by omega⟩⟩
      repeat walk_at "rd"
      refine w_ixL hw2 (v := .int b) rfl ?_
      repeat walk_at "rd"
      refine w_I (cmulS (by omega) (by decide)) ?_
      repeat walk_at "rd"
      refine w_ixL hw2 (v := .int (c + 1)) rfl ?_
      refine w_I (cmulS (by decide) (by omega)) ?_
      repeat walk_at "rd"
      refine w_I (by decide) ?_
      have g0 := Int.emod_nonneg (b * 48271 + 30103 * (c + 1) + 11) (show (2147483647 : Int) ≠ 0 by decide)
      have g1 := Int.emod_lt_of_pos (b * 48271 + 30103 * (c + 1) + 11) (show (0 : Int) < 2147483647 by decide)
      generalize (b * 48271 + 30103 * (c + 1) + 11) % 2147483647 = x1 at g0 g1 ⊢
      repeat walk_at "rd"
      refine w_I (cdivw (by decide) (by decide)) ?_
      repeat walk_at "rd"
      refine w_I (cmulS (by omega) (by omega)) ?_
      repeat walk_at "rd"
      refine w_I (by decide) ?_
      have g2 := Int.emod_nonneg (x1 * (x1 / 1009 + 69621)) (show (2147483629 : Int) ≠ 0 by decide)
      have g3 := Int.emod_lt_of_pos (x1 * (x1 / 1009 + 69621)) (show (0 : Int) < 2147483629 by decide)
      generalize x1 * (x1 / 1009 + 69621) % 2147483629 = x2 at g2 g3 ⊢
      repeat walk_at "rd"
      refine w_I (cdivw (by decide) (by decide)) ?_
      repeat walk_at "rd"
      refine w_ixL hw2 (v := .int (c + 1)) rfl ?_
      repeat walk_at "rd"
      refine w_I (cmulS (by omega) (by omega)) ?_
      repeat walk_at "rd"
      refine w_I (by decide) ?_
      repeat walk_at "rd"
      refine w_I (cdivw (by decide) (by decide)) ?_
      repeat walk_at "rd"
      refine w_I m0 ?_
      exact q _ _ o2 W2 (Int.emod_nonneg _ (by omega)) (Int.emod_lt_of_pos _ m0)
/-! ### one of some -/
def spOne : Sp := fun vs H Q _ => ∃ (p l : Addr) (n : Nat) (xs : List V), vs = [.ref p, .ref l] ∧ Well n H p ∧ n < 1000000 ∧ l ≠ p ∧ H l = some (.lst xs) ∧ 0 < xs.length ∧ xs.length ≤ 1000 ∧
  ∀ (i : Nat) v H', xs[i]? = some v → Oth p H H' → Well (n + 1) H' p → Q v H'
theorem atI_nat {xs : List V} {r : Int} (h0 : 0 ≤ r) (h1 : r < xs.length) : ∃ v, atI xs r = some v ∧ xs[r.toNat]? = some v := by
  obtain ⟨k, rfl⟩ := Int.eq_ofNat_of_zero_le h0
  have h : k < xs.length := by omega
  refine ⟨xs[k], ?_, ?_⟩
  · unfold atI ixN
    rw [if_pos h0, if_pos h1]
    simp [h]
  · simp [h]
theorem sc_law_one : FnScope ["well", "some"] ["well", "some"] (defScope s_law_one) := ⟨rfl, rfl, rfl, by decide +kernel, rfl, by decide +kernel, by decide +kernel⟩
theorem ok_one (T : AllL K mg CF) (k_law_draw : Kn P w K mg base CX0 1 "_law_draw" ["well", "many"] spDraw) : Kn P w K mg base CX0 2 "_law_one" ["well", "some"] spOne := by
  refine T.x_one.kn fun f fd F => ?_
  refine F.ok sc_law_one (fun vs H Q E h => ?_) (fun cdv A outer s H vs Q E hr h => ?_)
  · obtain ⟨p, l, n, xs, rfl, _⟩ := h
    rfl
  · obtain ⟨p, l, n, xs, rfl, hw, hn, lp, hl, l0, l1, q⟩ := h
    refine ⟨_, (pss_one (ps_ret (pe_ix ix_list (pv 1) (pk k_law_draw hr (pa_cons (pv 0) (pa_cons (pe_callB call_len_seq (by rfl) T.b_len boot_len (pa_cons (pv 1) pa_nil)) pa_nil))) (fun _ _ => rfl)))), ?_⟩
    repeat walk_at "rd"
    refine w_lenL hl ?_
    repeat walk_at "rd"
    refine ⟨p, _, n, rfl, hw, hn, by omega, ?_, fun r H' o W r0 r1 => ?_⟩
    · have := (bits_lt_pow (n := (xs.length : Int)) (k := 64) (by omega)).2 (Int.lt_trans (show (xs.length : Int) < 18446744073709551615 by omega) (by decide))
      exact this
    repeat walk_at "rd"
    obtain ⟨v, e1, e2⟩ := atI_nat r0 r1
    refine w_ixL (o l _ lp hl) e1 ?_
    exact q _ v H' e2 o W
end
end Nu

set_option Elab.async false
set_option linter.all false
set_option maxRecDepth 100000
set_option autoImplicit false
set_option maxHeartbeats 4000000
namespace Nu
open PySem PySem.Spec PyProof.Rows L2 Rd
local macro_rules | `(tactic| walk_at "hp") => `(tactic| first | assumption | (refine same_get ?sm ?_; (case sm => assumption); walk_at "hp"))
local macro_rules | `(tactic| walk_at "rd") => `(tactic| first
  | with_reducible refine w_nx ?_
  | with_reducible refine w_rt ?_
  | with_reducible refine w_bk ?_
  | with_reducible refine w_ct ?_
  | with_reducible refine w_seq ?_
  | with_reducible refine w_next ?_
  | with_reducible refine w_ret ?_
  | with_reducible refine w_ifS ?_
  | with_reducible refine w_asg ?_
  | with_reducible refine w_name ?_
  | with_reducible refine w_par ?_
  | with_reducible refine w_parI ?_
  | with_reducible refine w_ii ?_
  | with_reducible refine w_i1 ?_
  | with_reducible refine w_drop ?_
  | with_reducible refine w_sFld ?_
  | ((with_reducible refine' w_var ?rdh ?_); (case rdh => exact rfl))
  | with_reducible refine w_c ?_
  | with_reducible refine w_op ?_
  | with_reducible refine w_un ?_
  | with_reducible refine w_I0 ?_
  | with_reducible refine w_U ?_
  | with_reducible refine w_bits ?_
  | with_reducible refine w_bitsI ?_
  | with_reducible refine w_tup ?_
  | with_reducible refine w_lst ?_
  | with_reducible refine w_nil ?_
  | with_reducible refine w_cons ?_
  | with_reducible refine w_fld ?_
  | with_reducible refine w_call ?_
  | with_reducible refine w_make ?_
  | with_reducible refine w_gsub ?_
  | with_reducible refine w_int1 ?_
  | with_reducible refine w_intB ?_
  | with_reducible refine w_for ?_
  | with_reducible refine w_rng1 ?_
  | with_reducible refine w_iList ?_
  | with_reducible refine w_iTup ?_
  | with_reducible refine w_makeD ?_
  | with_reducible refine w_nn ?_
  | with_reducible refine w_subB ?_
  | with_reducible refine w_meth ?_
  | with_reducible refine w_cb ?_
  | with_reducible refine w_test ?_
  | with_reducible refine w_B ?_
  | with_reducible refine w_bl ?_
  | with_reducible refine w_andV ?_
  | with_reducible refine w_orV ?_
  | with_reducible refine w_notV ?_
  | with_reducible refine w_and ?_
  | with_reducible refine w_or ?_
  | with_reducible refine w_not ?_
  | with_reducible refine w_if ?_
  | with_reducible refine w_gnil ?_
  | with_reducible refine w_gcons ?_
  | with_reducible refine iT ?_
  | with_reducible refine iF ?_
  | with_reducible refine w_eqI ?_
  | with_reducible refine w_neI ?_
  | with_reducible refine w_eqS ?_
  | with_reducible refine w_eqIS ?_
  | with_reducible refine w_eqSI ?_)

abbrev s_law_finite : Stmt := top 46
abbrev s_law_float : Stmt := top 47
structure AllM (K : PySem.W.Frag) (mg : Str → Option Value) (CF : Addr) : Prop extends AllL K mg CF where
  x_finite : Tx K mg "_law_finite" "_law_finite" s_law_finite ["well"]
  x_float : Tx K mg "_law_float" "_law_float" s_law_float ["well"]
section
variable {P : Program} {w : World} {K : PySem.W.Frag} {mg : Str → Option Value} {base : Heap} {CF : Addr}
/-! ### a great int -/
def spGreat : Sp := fun vs H Q _ => ∃ (p : Addr) (b : Int) (n : Nat), vs = [.ref p, .int b] ∧ Well n H p ∧ n < 900000 ∧ 0 ≤ b ∧ b ≤ 100 ∧
  ∀ r H', Oth p H H' → Well (n + 10) H' p → 0 ≤ r → r < 2 ^ b.toNat → Q (.int r) H'
theorem sc_law_great : FnScope ["well", "bits", "number", "k"] ["well", "bits"] (defScope s_law_great) := ⟨rfl, rfl, rfl, by decide +kernel, rfl, by decide +kernel, by decide +kernel⟩
theorem ok_great (T : AllL K mg CF) (k_law_draw : Kn P w K mg base CX0 1 "_law_draw" ["well", "many"] spDraw) : Kn P w K mg base CX0 2 "_law_great" ["well", "bits"] spGreat := by
  refine T.x_great.kn fun f fd F => ?_
  refine F.ok sc_law_great (fun vs H Q E h => ?_) (fun cdv A outer s H vs Q E hr h => ?_)
  · obtain ⟨p, b, n, rfl, _⟩ := h
    rfl
  · obtain ⟨p, b, n, rfl, hw, hn, hb0, hb1, q⟩ := h
    refine ⟨_, (pss_cons (ps_set (i := 2) sc_law_great.nd rfl (Or.inl rfl) pe_int)
      (pss_cons (ps_for PassesOwn.never rfl (pi_range1 rfl T.b_range (pa_cons (pe_op op_add pe_int (pe_op op_fdivW (pv 1) pe_int)) pa_nil)) (pg_name (i := 3) sc_law_great.nd rfl (Or.inl rfl))
      (pss_one (ps_set (i := 2) sc_law_great.nd rfl (Or.inl rfl) (pe_op op_add (pe_op op_mulX (pv 2) pe_int) (pk k_law_draw hr (pa_cons (pv 0) (pa_cons pe_int pa_nil)))))))
      (pss_one (ps_ret (pe_op op_mod (pe_callTy call_int1 (by rfl) T.b_int boot_int (pa_cons (pv 2) pa_nil)) (pe_op op_shlW pe_int (pv 1))))))), ?_⟩
    repeat walk_at "rd"
    refine w_I (cdivw (by decide) (by decide)) ?_
    repeat walk_at "rd"
    refine ⟨by omega, by omega, ?_⟩
    have e : (1 + b / 20).toNat ≤ 6 := by omega
    generalize (1 + b / 20).toNat = m at e ⊢
    refine for_range (lo := 0) (fun i σ H' => ∃ num kv, σ = [some (.ref p), some (.int b), some (.int num), kv] ∧ Oth p H H' ∧ Well (n + i) H' p ∧ 0 ≤ num ∧ num < 2 ^ (20 * i)) ⟨0, none, rfl, Oth.refl, hw, Int.le_refl _, by decide⟩ ?_ ?_
    · intro i σ H1 hi ⟨num, kv, es, o1, w1, n0, n1⟩
      subst es
      repeat walk_at "rd"
      have bn := (bits_lt_pow n0).2 n1
      refine w_I (cmulW (by unfold bits at bn; have : Builtin.Int.intBits 1048576 = 21 := by decide
                            omega)) ?_
      repeat walk_at "rd"
      refine ⟨p, 1048576, n + i, rfl, w1, by omega, by decide, by decide, fun r H2 o2 w2 r0 r1 => ?_⟩
      repeat walk_at "rd"
      refine ⟨_, _, rfl, o1.trans o2, w2, by omega, ?_⟩
      rw [show 20 * (i + 1) = 20 * i + 20 from by omega, Int.pow_add, show (2 : Int) ^ 20 = 1048576 by decide]
      omega
    · intro σ H1 ⟨num, kv, es, o1, w1, n0, n1⟩
      subst es
      repeat walk_at "rd"
      refine w_I (cshl (by decide) hb0 (by omega)) ?_
      repeat walk_at "rd"
      have pp := pow_pos2 b.toNat
      refine w_I (by rw [Int.one_mul]; exact pp) ?_
      rw [Int.one_mul]
      exact q _ _ o1 (w1.mono (by omega)) (Int.emod_nonneg _ (by omega)) (Int.emod_lt_of_pos _ pp)
theorem u_draw {p : Addr} {many : Int} {n : Nat} {H : Hp} {Q : VK} {E : XK} (hw : Well n H p) (hn : n < 1000000) (m0 : 0 < many) (m1 : bits many ≤ 64) (q : ∀ r H', Oth p H H' → Well (n + 1) H' p → 0 ≤ r → r < many → Q (.int r) H') : spDraw ([V.ref p, V.int many] ++ []) H Q E :=
  ⟨p, many, n, rfl, hw, hn, m0, m1, q⟩
theorem u_one {p l : Addr} {xs : List V} {n : Nat} {H : Hp} {Q : VK} {E : XK} (hw : Well n H p) (hn : n < 1000000) (hl : H l = some (.lst xs)) (lp : l ≠ p) (l0 : 0 < xs.length) (l1 : xs.length ≤ 1000) (q : ∀ v H', v ∈ xs → Oth p H H' → Well (n + 1) H' p → Q v H') : spOne ([V.ref p, V.ref l] ++ []) H Q E :=
  ⟨p, l, n, xs, rfl, hw, hn, lp, hl, l0, l1, fun i v H' e o W => q v H' (List.mem_of_getElem? e) o W⟩
/-- a call of _law_one on a list that is made in the call -/
theorem u_great {p : Addr} {b : Int} {n : Nat} {H : Hp} {Q : VK} {E : XK} (hw : Well n H p) (hn : n < 900000) (m0 : 0 ≤ b) (m1 : b ≤ 100) (q : ∀ r H', Oth p H H' → Well (n + 10) H' p → 0 ≤ r → r < 2 ^ b.toNat → Q (.int r) H') : spGreat ([V.ref p, V.int b] ++ []) H Q E :=
  ⟨p, b, n, rfl, hw, hn, m0, m1, q⟩
theorem Well.ne {n : Nat} {H : Hp} {p l : Addr} (h : Well n H p) (e : H l = none) : l ≠ p := by
  rintro rfl
  obtain ⟨_, _, _, k, _⟩ := h
  rw [e] at k
  cases k
/-! ### a finite float's parts -/
structure FinA (s t p : Int) : Prop where
  hs : s = 1 ∨ s = -1
  t0 : 0 ≤ t
  t1 : t < 9007199254740992
  p0 : -1074 ≤ p
  p1 : p ≤ 971
def spFin : Sp := fun vs H Q _ => ∃ (p : Addr) (n : Nat), vs = [.ref p] ∧ Well n H p ∧ n < 800000 ∧
  ∀ q H' s t pw, Oth p H H' → Well (n + 40) H' p → H' q = some (.tup [.int s, .int t, .int pw]) → FinA s t pw → Q (.ref q) H'
theorem sc_law_finite : FnScope ["well", "sign", "way", "some"] ["well"] (defScope s_law_finite) := ⟨rfl, rfl, rfl, by decide +kernel, rfl, by decide +kernel, by decide +kernel⟩
theorem ok_finite (T : AllM K mg CF) (k_law_draw : Kn P w K mg base CX0 1 "_law_draw" ["well", "many"] spDraw) (k_law_one : Kn P w K mg base CX0 2 "_law_one" ["well", "some"] spOne) (k_law_great : Kn P w K mg base CX0 2 "_law_great" ["well", "bits"] spGreat) :
    Kn P w K mg base CX0 3 "_law_finite" ["well"] spFin := by
  refine T.x_finite.kn fun f fd F => ?_
  refine F.ok sc_law_finite (fun vs H Q E h => ?_) (fun cdv A outer s H vs Q E hr h => ?_)
  · obtain ⟨p, n, rfl, _⟩ := h
    rfl
  · obtain ⟨p, n, rfl, hw, hn, q⟩ := h
    refine ⟨_, (pss_cons (ps_par (by rfl) sc_law_finite.nd (i := 1) (j := 2) rfl rfl (by decide) rfl rfl (pa_cons (pk k_law_one hr (pa_cons (pv 0) (pa_cons (pe_lst (pa_cons pe_int (pa_cons (pe_un un_neg pe_int) pa_nil))) pa_nil))) (pa_cons (pk k_law_draw hr (pa_cons (pv 0) (pa_cons pe_int pa_nil))) pa_nil)) (by rfl))
      (pss_cons (ps_if (pt_cmpR op_eq (pv 2) pe_int (nomark _)) (pss_one (ps_ret (pe_tup (pa_cons (pv 1) (pa_cons pe_int (pa_cons pe_int pa_nil)))))) pss_nil)
      (pss_cons (ps_if (pt_cmpR op_lt (pv 2) pe_int (nomark _)) (pss_one (ps_ret (pe_tup (pa_cons (pv 1) (pa_cons (pk k_law_draw hr (pa_cons (pv 0) (pa_cons pe_int pa_nil))) (pa_cons (pk k_law_one hr (pa_cons (pv 0) (pa_cons (pe_lst (pa_cons pe_int (pa_cons pe_int (pa_cons (pe_un un_neg pe_int) (pa_cons (pe_un un_neg pe_int) pa_nil))))) pa_nil))) pa_nil)))))) pss_nil)
      (pss_cons (ps_set (i := 3) sc_law_finite.nd rfl (Or.inl rfl) (pe_lst (pa_cons (pe_op op_sub (pk k_law_draw hr (pa_cons (pv 0) (pa_cons pe_int pa_nil))) pe_int) (pa_cons (pe_op op_sub pe_int (pk k_law_draw hr (pa_cons (pv 0) (pa_cons pe_int pa_nil)))) (pa_cons (pk k_law_draw hr (pa_cons (pv 0) (pa_cons pe_int pa_nil))) (pa_cons (pe_op op_sub pe_int (pk k_law_draw hr (pa_cons (pv 0) (pa_cons pe_int pa_nil)))) pa_nil))))))
      (pss_cons (ps_set (i := 3) sc_law_finite.nd rfl (Or.inl rfl) (pe_op op_cat (pv 3) (pe_lst (pa_cons (pe_op op_sub (pe_un un_neg pe_int) (pk k_law_draw hr (pa_cons (pv 0) (pa_cons pe_int pa_nil)))) (pa_cons (pe_op op_sub (pk k_law_draw hr (pa_cons (pv 0) (pa_cons pe_int pa_nil))) pe_int) pa_nil)))))
      (pss_one (ps_ret (pe_tup (pa_cons (pv 1) (pa_cons (pk k_law_great hr (pa_cons (pv 0) (pa_cons (pk k_law_one hr (pa_cons (pv 0) (pa_cons (pe_lst (pa_cons pe_int (pa_cons pe_int (pa_cons pe_int (pa_cons pe_int pa_nil))))) pa_nil))) pa_nil))) (pa_cons (pe_callB (call_min2 rfl) (by rfl) T.b_min boot_min (pa_cons pe_int (pa_cons (pk k_law_one hr (pa_cons (pv 0) (pa_cons (pv 3) pa_nil))) pa_nil))) pa_nil))))))))))), ?_⟩
    repeat walk_at "rd"
    refine w_lst2 fun a1 H1 s1 n1 h1 => ?_
    repeat walk_at "rd"
    refine u_one (hw.same s1) (by omega) h1 (hw.ne n1) (by decide) (by decide) fun v H2 hv o2 w2 => ?_
    have o2 := (Rd.Same.oth (x := p) s1).trans o2
    obtain ⟨sg, rfl, hs⟩ : ∃ sg, v = .int sg ∧ (sg = 1 ∨ sg = -1) := by
      simp only [List.mem_cons, List.not_mem_nil, or_false] at hv
      rcases hv with rfl | rfl
      · exact ⟨_, rfl, .inl rfl⟩
      · exact ⟨_, rfl, .inr rfl⟩
    repeat walk_at "rd"
    refine u_draw w2 (by omega) (by decide) (by decide) fun way H3 o3 w3 r0 r1 => ?_
    have o3 := o2.trans o3
    repeat walk_at "rd"
    refine iD (fun _ => ?_) (fun _ => ?_)
    · repeat walk_at "rd"
      refine w_tup3 fun a4 H4 s4 n4 h4 => ?_
      repeat walk_at "rd"
      exact q a4 H4 sg 0 0 (o3.same s4) ((w3.mono (by omega)).same s4) h4 ⟨hs, by decide, by decide, by decide, by decide⟩
    repeat walk_at "rd"
    refine iD (fun _ => ?_) (fun _ => ?_)
    · repeat walk_at "rd"
      refine u_draw w3 (by omega) (by decide) (by decide) fun t H4 o4 w4 t0 t1 => ?_
      repeat walk_at "rd"
      refine w_lst4 fun a5 H5 s5 n5 h5 => ?_
      repeat walk_at "rd"
      refine u_one (w4.same s5) (by omega) h5 (w4.ne n5) (by decide) (by decide) fun v H6 hv o6 w6 => ?_
      have o6 := ((o3.trans o4).same s5).trans o6
      obtain ⟨pw, rfl, hp⟩ : ∃ pw, v = .int pw ∧ -3 ≤ pw ∧ pw ≤ 0 := by
        simp only [List.mem_cons, List.not_mem_nil, or_false] at hv
        rcases hv with rfl | rfl | rfl | rfl <;> exact ⟨_, rfl, by decide, by decide⟩
      repeat walk_at "rd"
      refine w_tup3 fun a4 H4 s4 n4 h4 => ?_
      repeat walk_at "rd"
      exact q a4 H4 sg t pw (o6.same s4) ((w6.mono (by omega)).same s4) h4 ⟨hs, t0, by omega, by omega, by omega⟩
    repeat walk_at "rd"
    refine u_draw w3 (by omega) (by decide) (by decide) fun t1 H4 o4 w4 t1l t1u => ?_
    repeat walk_at "rd"
    refine u_draw w4 (by omega) (by decide) (by decide) fun t2 H5 o5 w5 t2l t2u => ?_
    repeat walk_at "rd"
    refine u_draw w5 (by omega) (by decide) (by decide) fun t3 H6 o6 w6 t3l t3u => ?_
    repeat walk_at "rd"
    refine u_draw w6 (by omega) (by decide) (by decide) fun t4 H7 o7 w7 t4l t4u => ?_
    have o7 := (((o3.trans o4).trans o5).trans o6).trans o7
    repeat walk_at "rd"
    refine w_lst4 fun a8 H8 s8 n8 h8 => ?_
    have o8 := o7.same s8
    have w8 := w7.same s8
    have ne8 := w7.ne n8
    repeat walk_at "rd"
    refine u_draw w8 (by omega) (by decide) (by decide) fun t5 H9 o9 w9 t5l t5u => ?_
    repeat walk_at "rd"
    refine u_draw w9 (by omega) (by decide) (by decide) fun t6 H10 o10 w10 t6l t6u => ?_
    have o10 := (o8.trans o9).trans o10
    have h8 : H10 a8 = _ := (‹Oth p H9 H10›) _ _ ne8 ((‹Oth p H8 H9›) _ _ ne8 h8)
    repeat walk_at "rd"
    refine w_lst2 fun a11 H11 s11 n11 h11 => ?_
    repeat walk_at "rd"
    refine w_cat (s11 _ _ h8) h11 (by show 4 + 2 ≤ sizeLine; decide) fun a12 H12 s12 n12 h12 => ?_
    have o12 := (o10.same s11).same s12
    have w12 := (w10.same s11).same s12
    have ne12 := (w10.same s11).ne n12
    repeat walk_at "rd"
    refine w_lst4 fun a13 H13 s13 n13 h13 => ?_
    repeat walk_at "rd"
    refine u_one (w12.same s13) (by omega) h13 (w12.ne n13) (by decide) (by decide) fun v H14 hv o14 w14 => ?_
    have k14 : H14 a12 = _ := o14 _ _ ne12 (s13 _ _ h12)
    have o14 := (o12.same s13).trans o14
    obtain ⟨bt, rfl, hbt⟩ : ∃ bt, v = .int bt ∧ 0 ≤ bt ∧ bt ≤ 53 := by
      simp only [List.mem_cons, List.not_mem_nil, or_false] at hv
      rcases hv with rfl | rfl | rfl | rfl <;> exact ⟨_, rfl, by decide, by decide⟩
    repeat walk_at "rd"
    refine u_great w14 (by omega) hbt.1 (by omega) fun t H15 o15 w15 tl tu => ?_
    have k15 : H15 a12 = _ := o15 _ _ ne12 k14
    have o15 := o14.trans o15
    repeat walk_at "rd"
    refine u_one w15 (by omega) k15 ne12 (by show 0 < 6; decide) (by show 6 ≤ 1000; decide) fun v H16 hv o16 w16 => ?_
    have o16 := o15.trans o16
    obtain ⟨pw, rfl, hp⟩ : ∃ pw, v = .int pw ∧ -1074 ≤ pw ∧ pw ≤ 1100 := by
      simp only [List.cons_append, List.nil_append, List.mem_cons, List.not_mem_nil, or_false] at hv
      rcases hv with rfl | rfl | rfl | rfl | rfl | rfl <;> exact ⟨_, rfl, by omega, by omega⟩
    repeat walk_at "rd"
    refine w_tup3 fun a4 H4 s4 n4 h4 => ?_
    refine q a4 H4 sg t (if pw < 971 then pw else 971) (o16.same s4) ((w16.mono (by omega)).same s4) h4 ⟨hs, tl, ?_, by split <;> omega, by split <;> omega⟩
    have := pow_mono (a := bt.toNat) (b := 53) (by omega)
    rw [show (2 : Int) ^ 53 = 9007199254740992 by decide] at this
    omega
theorem u_fin {p : Addr} {n : Nat} {H : Hp} {Q : VK} {E : XK} (hw : Well n H p) (hn : n < 800000) (q : ∀ q H' s t pw, Oth p H H' → Well (n + 40) H' p → H' q = some (.tup [.int s, .int t, .int pw]) → FinA s t pw → Q (.ref q) H') : spFin ([V.ref p] ++ []) H Q E :=
  ⟨p, n, rfl, hw, hn, q⟩
theorem FinA.arg {s t p : Int} (h : FinA s t p) : Arg s (.int t) p (.fin s (red t p).1 (red t p).2) := by
  obtain ⟨hs, t0, t1, p0, p1⟩ := h
  refine .inl ⟨t, rfl, t0, hs, red_fits t0 (by omega) p0 ?_, rfl⟩
  have := bits_small t0 (k := 53) (by rw [show (2 : Int) ^ 53 = 9007199254740992 by decide]; exact t1)
  omega
/-! ### a float -/
def spFlt (CF : Addr) : Sp := fun vs H Q _ => ∃ (p : Addr) (n : Nat), vs = [.ref p] ∧ Well n H p ∧ n < 700000 ∧
  ∀ x f H', Oth p H H' → Well (n + 50) H' p → FlAt CF H' x f → f.ok → Q (.ref x) H'
theorem sc_law_float : FnScope ["well", "sign", "top", "power"] ["well"] (defScope s_law_float) := ⟨rfl, rfl, rfl, by decide +kernel, rfl, by decide +kernel, by decide +kernel⟩
theorem ok_float (T : AllM K mg CF) (k_law_draw : Kn P w K mg base CX0 1 "_law_draw" ["well", "many"] spDraw) (k_law_one : Kn P w K mg base CX0 2 "_law_one" ["well", "some"] spOne) (k_law_finite : Kn P w K mg base CX0 3 "_law_finite" ["well"] spFin)
    (k_Float_init : KnC P w K mg base CX0 2 "Float" CF ["self", "sign", "top", "power"] (spInit CF)) : Kn P w K mg base CX0 4 "_law_float" ["well"] (spFlt CF) := by
  refine T.x_float.kn fun f fd F => ?_
  refine F.ok sc_law_float (fun vs H Q E h => ?_) (fun cdv A outer s H vs Q E hr h => ?_)
  · obtain ⟨p, n, rfl, _⟩ := h
    rfl
  · obtain ⟨p, n, rfl, hw, hn, q⟩ := h
    refine ⟨_, (pss_cons (ps_if (pt_cmpR op_eq (pk k_law_draw hr (pa_cons (pv 0) (pa_cons pe_int pa_nil))) pe_int (nomark _)) (pss_one (ps_ret (pk k_law_one hr (pa_cons (pv 0) (pa_cons (pe_lst (pa_cons (pkC k_Float_init hr (pa_cons pe_int (pa_cons pe_str (pa_cons pe_int pa_nil)))) (pa_cons (pkC k_Float_init hr (pa_cons (pe_un un_neg pe_int) (pa_cons pe_str (pa_cons pe_int pa_nil)))) (pa_cons (pkC k_Float_init hr (pa_cons pe_int (pa_cons pe_str (pa_cons pe_int pa_nil)))) pa_nil)))) pa_nil))))) pss_nil)
      (pss_cons (ps_asg (pk k_law_finite hr (pa_cons (pv 0) pa_nil)) (pg_tup (by rfl) (pgs_cons (pg_name (i := 1) sc_law_float.nd rfl (Or.inl rfl)) (pgs_cons (pg_name (i := 2) sc_law_float.nd rfl (Or.inl rfl)) (pgs_cons (pg_name (i := 3) sc_law_float.nd rfl (Or.inl rfl)) pgs_nil)))))
      (pss_one (ps_ret (pkC k_Float_init hr (pa_cons (pv 1) (pa_cons (pv 2) (pa_cons (pv 3) pa_nil)))))))), ?_⟩
    repeat walk_at "rd"
    refine u_draw hw (by omega) (by decide) (by decide) fun r H1 o1 w1 r0 r1 => ?_
    repeat walk_at "rd"
    refine iD (fun _ => ?_) (fun _ => ?_)
    · repeat walk_at "rd"
      refine u_Float (.inr (.inl ⟨rfl, rfl, .inl rfl, rfl⟩)) fun x1 H2 s2 n2 h2 => ?_
      repeat walk_at "rd"
      refine u_Float (.inr (.inl ⟨rfl, rfl, .inr rfl, rfl⟩)) fun x2 H3 s3 n3 h3 => ?_
      repeat walk_at "rd"
      refine u_Float (.inr (.inr ⟨rfl, rfl, rfl, rfl⟩)) fun x3 H4 s4 n4 h4 => ?_
      repeat walk_at "rd"
      refine w_lst3 fun a5 H5 s5 n5 h5 => ?_
      repeat walk_at "rd"
      have w5 := (((w1.same s2).same s3).same s4).same s5
      refine u_one w5 (by omega) h5 ((((w1.same s2).same s3).same s4).ne n5) (by show 0 < 3; decide) (by show 3 ≤ 1000; decide) fun v H6 hv o6 w6 => ?_
      have o7 := ((((o1.same s2).same s3).same s4).same s5).trans o6
      have k1 : ∀ x f, x ≠ p → FlAt CF H5 x f → FlAt CF H6 x f := fun x f hx ⟨dx, e⟩ => ⟨dx, o6 _ _ hx e⟩
      simp only [List.mem_cons, List.not_mem_nil, or_false] at hv
      rcases hv with rfl | rfl | rfl
      · exact q x1 _ H6 o7 (w6.mono (by omega)) (k1 _ _ (w1.ne n2) (((h2.same s3).same s4).same s5)) (.inl rfl)
      · exact q x2 _ H6 o7 (w6.mono (by omega)) (k1 _ _ ((w1.same s2).ne n3) ((h3.same s4).same s5)) (.inr rfl)
      · exact q x3 _ H6 o7 (w6.mono (by omega)) (k1 _ _ (((w1.same s2).same s3).ne n4) (h4.same s5)) trivial
    · repeat walk_at "rd"
      refine u_fin w1 (by omega) fun a2 H2 s t pw o2 w2 h2 fa => ?_
      refine w_gtup h2 rfl ?_
      repeat walk_at "rd"
      refine u_Float fa.arg fun x H3 s3 n3 h3 => ?_
      exact q x _ H3 ((o1.trans o2).same s3) ((w2.same s3).mono (by omega)) h3 fa.arg.ok
end
end Nu

set_option Elab.async false
set_option linter.all false
set_option maxRecDepth 100000
set_option autoImplicit false
set_option maxHeartbeats 4000000
namespace Nu
open PySem PySem.Spec PyProof.Rows L2 Rd
local macro_rules | `(tactic| walk_at "hp") => `(tactic| first | assumption | (refine same_get ?sm ?_; (case sm => assumption); walk_at "hp"))
local macro_rules | `(tactic| walk_at "rd") => `(tactic| first
  | with_reducible refine w_nx ?_
  | with_reducible refine w_rt ?_
  | with_reducible refine w_bk ?_
  | with_reducible refine w_ct ?_
  | with_reducible refine w_seq ?_
  | with_reducible refine w_next ?_
  | with_reducible refine w_ret ?_
  | with_reducible refine w_ifS ?_
  | with_reducible refine w_asg ?_
  | with_reducible refine w_name ?_
  | with_reducible refine w_par ?_
  | with_reducible refine w_parI ?_
  | with_reducible refine w_ii ?_
  | with_reducible refine w_i1 ?_
  | with_reducible refine w_drop ?_
  | with_reducible refine w_sFld ?_
  | ((with_reducible refine' w_var ?rdh ?_); (case rdh => exact rfl))
  | with_reducible refine w_c ?_
  | with_reducible refine w_op ?_
  | with_reducible refine w_un ?_
  | with_reducible refine w_I0 ?_
  | with_reducible refine w_U ?_
  | with_reducible refine w_bits ?_
  | with_reducible refine w_bitsI ?_
  | with_reducible refine w_tup ?_
  | with_reducible refine w_lst ?_
  | with_reducible refine w_nil ?_
  | with_reducible refine w_cons ?_
  | with_reducible refine w_fld ?_
  | with_reducible refine w_call ?_
  | with_reducible refine w_make ?_
  | with_reducible refine w_gsub ?_
  | with_reducible refine w_int1 ?_
  | with_reducible refine w_intB ?_
  | with_reducible refine w_for ?_
  | with_reducible refine w_rng1 ?_
  | with_reducible refine w_iList ?_
  | with_reducible refine w_iTup ?_
  | with_reducible refine w_makeD ?_
  | with_reducible refine w_nn ?_
  | with_reducible refine w_subB ?_
  | with_reducible refine w_meth ?_
  | with_reducible refine w_cb ?_
  | with_reducible refine w_test ?_
  | with_reducible refine w_B ?_
  | with_reducible refine w_bl ?_
  | with_reducible refine w_andV ?_
  | with_reducible refine w_orV ?_
  | with_reducible refine w_notV ?_
  | with_reducible refine w_and ?_
  | with_reducible refine w_or ?_
  | with_reducible refine w_not ?_
  | with_reducible refine w_if ?_
  | with_reducible refine w_gnil ?_
  | with_reducible refine w_gcons ?_
  | with_reducible refine iT ?_
  | with_reducible refine iF ?_
  | with_reducible refine w_eqI ?_
  | with_reducible refine w_neI ?_
  | with_reducible refine w_eqS ?_
  | with_reducible refine w_eqIS ?_
  | with_reducible refine w_eqSI ?_)

abbrev s_nan : Stmt := top 17
abbrev s_added : Stmt := top 28
abbrev s_by_floats : Stmt := top 27
abbrev s_arith : Stmt := top 24
abbrev s_is_within : Stmt := top 38
abbrev s_ForPlan_init : Stmt := inClass (top 37) 0
abbrev s_ForPlan_goes_on : Stmt := inClass (top 37) 1
abbrev s_for_plan : Stmt := top 39
abbrev s_whole_plan : Stmt := top 40
abbrev s_law_int : Stmt := top 48
abbrev s_law_number : Stmt := top 49
abbrev s_law_said : Stmt := top 50
abbrev s_law_is_number : Stmt := top 51
abbrev s_law_due_of_ints : Stmt := top 52
abbrev s_law_due : Stmt := top 53
abbrev s_law_is_alike : Stmt := top 54
abbrev s_law_count_right : Stmt := top 55
abbrev s_law : Stmt := top 56
abbrev s_Thrown_init : Stmt := inClass (top 5) 0
structure AllP (K : PySem.W.Frag) (mg : Str → Option Value) (CF CP CE : Addr) : Prop extends AllM K mg CF where
  b_zip : mg "zip" = none
  b_AE : mg "ArithmeticError" = none
  v_AE : PySem.W.findCls K (.type "ArithmeticError") (.type "type") "__init__" = some (.val (.builtin "ArithmeticError.__init__"))
  g_ForPlan : mg "ForPlan" = some (.ref CP)
  l_ForPlan : Cls K CP
  n_value : NoAttr K CP "value"
  n_stride : NoAttr K CP "stride"
  n_left : NoAttr K CP "left"
  n_limit : NoAttr K CP "limit"
  g_Thrown : mg "Thrown" = some (.ref CE)
  a_Thrown : AexC K CE
  xf_Thrown : XfC K CE
  xn_value : PySem.W.findIn K (.ref CE) "value" = some none
  xn_level : PySem.W.findIn K (.ref CE) "level" = some none
  e_Thrown : PySem.W.exmOne K (.ref CE) (.ref CE) = some true
  x_ForPlan : TxC K mg "ForPlan" CP "ForPlan.__init__" s_ForPlan_init ["self", "value", "step", "left", "limit"]
  x_goes_on : TxM K CP "goes_on" "ForPlan.goes_on" s_ForPlan_goes_on ["self"]
  x_nan : Tx K mg "nan" "nan" s_nan []
  x_added : Tx K mg "added" "added" s_added ["one", "other"]
  x_by_floats : Tx K mg "by_floats" "by_floats" s_by_floats ["word", "one", "other"]
  x_arith : Tx K mg "arith" "arith" s_arith ["word", "one", "other"]
  x_is_within : Tx K mg "is_within" "is_within" s_is_within ["number", "step", "limit"]
  x_for_plan : Tx K mg "for_plan" "for_plan" s_for_plan ["start", "limit", "step"]
  x_whole_plan : Tx K mg "whole_plan" "whole_plan" s_whole_plan ["start", "limit", "step"]
  x_int : Tx K mg "_law_int" "_law_int" s_law_int ["well"]
  x_number : Tx K mg "_law_number" "_law_number" s_law_number ["well"]
  x_said : Tx K mg "_law_said" "_law_said" s_law_said ["start", "limit", "step"]
  x_is_num : Tx K mg "_law_is_number" "_law_is_number" s_law_is_number ["thing"]
  x_due_ints : Tx K mg "_law_due_of_ints" "_law_due_of_ints" s_law_due_of_ints ["start", "limit", "step"]
  x_due : Tx K mg "_law_due" "_law_due" s_law_due ["start", "limit", "step"]
  x_alike : Tx K mg "_law_is_alike" "_law_is_alike" s_law_is_alike ["told", "due"]
  x_count : Tx K mg "_law_count_right" "_law_count_right" s_law_count_right ["well"]
  x_law : Tx K mg "law" "law" s_law ["script"]
/-! ### the sum of two floats -/
def addM : Fl → Fl → Fl
  | .nan, _ => .nan
  | _, .nan => .nan
  | .inf s, .inf r => if s = r then .inf s else .nan
  | .inf s, .fin _ _ _ => .inf s
  | .fin _ _ _, .inf r => .inf r
  | .fin s t p, .fin r u q => if t = 0 ∧ u = 0 then .fin (if r > s then r else s) 0 0 else
    nearM (if ratT s t p * ratB q + ratT r u q * ratB p < 0 then -1 else 1) (if ratT s t p * ratB q + ratT r u q * ratB p < 0 then -(ratT s t p * ratB q + ratT r u q * ratB p) else ratT s t p * ratB q + ratT r u q * ratB p) (ratB p * ratB q)
theorem addM_ii (s r : Int) : addM (.inf s) (.inf r) = if s = r then .inf s else .nan := rfl
theorem addM_ff (s t p r u q : Int) : addM (.fin s t p) (.fin r u q) = if t = 0 ∧ u = 0 then .fin (if r > s then r else s) 0 0 else
    nearM (if ratT s t p * ratB q + ratT r u q * ratB p < 0 then -1 else 1) (if ratT s t p * ratB q + ratT r u q * ratB p < 0 then -(ratT s t p * ratB q + ratT r u q * ratB p) else ratT s t p * ratB q + ratT r u q * ratB p) (ratB p * ratB q) := rfl
theorem bits_abs (n : Int) : bits (if n < 0 then -n else n) = bits n := by
  unfold bits
  split
  · rw [show Builtin.Int.intBits (-n) = Builtin.Int.intBits n by simp [Builtin.Int.intBits]]
  · rfl
theorem bits_add {a b : Int} {k : Nat} (ha : bits a ≤ k) (hb : bits b ≤ k) : bits (a + b) ≤ ((k + 1 : Nat) : Int) := by
  have h1 := bits_le.1 ha
  have h2 := bits_le.1 hb
  refine bits_le.2 ?_
  have h3 : (a + b).natAbs ≤ a.natAbs + b.natAbs := Int.natAbs_add_le a b
  rw [Nat.pow_succ]
  omega
theorem ratT_b {s t p : Int} (h : (Fl.fin s t p).ok) : bits (ratT s t p) ≤ 1025 := by
  obtain ⟨bs, bt, p1, p2, t0, tp⟩ := ok_bounds h
  unfold ratT
  split
  · have := bits_mul s t; omega
  · have h1 := bits_mul s (t * 2 ^ p.toNat)
    have h2 := bits_mul_pow t0 p.toNat
    omega
theorem ratB_b {s t p : Int} (h : (Fl.fin s t p).ok) : bits (ratB p) ≤ 1075 := by
  obtain ⟨bs, bt, p1, p2, t0, tp⟩ := ok_bounds h
  unfold ratB
  split
  · rw [bits_pow]; omega
  · decide
theorem abs_nn (n : Int) : 0 ≤ (if n < 0 then -n else n) := by split <;> omega
theorem sgn_pm (n : Int) : (if n < 0 then (-1 : Int) else 1) = 1 ∨ (if n < 0 then (-1 : Int) else 1) = -1 := by
  split
  · exact .inr rfl
  · exact .inl rfl
theorem top_bits {s t p r u q : Int} (h : (Fl.fin s t p).ok) (k : (Fl.fin r u q).ok) : bits (ratT s t p * ratB q + ratT r u q * ratB p) ≤ 2150 := by
  have h1 := bits_mul (ratT s t p) (ratB q)
  have h2 := bits_mul (ratT r u q) (ratB p)
  have := ratT_b h
  have := ratB_b h
  have := ratT_b k
  have := ratB_b k
  have := bits_add (a := ratT s t p * ratB q) (b := ratT r u q * ratB p) (k := 2100) (by omega) (by omega)
  omega
theorem bot_bits {s t p r u q : Int} (h : (Fl.fin s t p).ok) (k : (Fl.fin r u q).ok) : bits (ratB p * ratB q) ≤ 2150 := by
  have h1 := bits_mul (ratB p) (ratB q)
  have := ratB_b h
  have := ratB_b k
  omega
theorem nearM_ok {s t b : Int} (hs : s = 1 ∨ s = -1) (ht : 0 ≤ t) (hb : 0 < b) : (nearM s t b).ok := by
  unfold nearM
  by_cases z : t = 0
  · rw [if_pos z]
    exact ⟨hs, by decide, by decide, fun _ => rfl, fun h => absurd rfl h⟩
  · rw [if_neg z]
    by_cases c : 1024 < bits (wh t b) + p2 t b
    · rw [if_pos c]
      exact hs
    · rw [if_neg c]
      exact Arg.ok (tv := .int (wh t b)) (p := p2 t b) (.inl ⟨wh t b, rfl, wh_nn ht hb, hs, wh_fits ht hb (Int.not_lt.mp c), rfl⟩)
theorem addM_ok {f g : Fl} (hf : f.ok) (hg : g.ok) : (addM f g).ok := by
  cases f with
  | nan => exact trivial
  | inf s =>
    cases g with
    | nan => exact trivial
    | inf r =>
      rw [addM_ii]
      split
      · exact hf
      · exact trivial
    | fin r u q => exact hf
  | fin s t p =>
    cases g with
    | nan => exact trivial
    | inf r => exact hg
    | fin r u q =>
      rw [addM_ff]
      split
      · obtain ⟨h1, _⟩ := hf
        obtain ⟨h2, _⟩ := hg
        refine ⟨?_, by decide, by decide, fun _ => rfl, fun h => absurd rfl h⟩
        split <;> assumption
      · exact nearM_ok (sgn_pm _) (abs_nn _) (Int.mul_pos (ratB_pos p) (ratB_pos q))
section
variable {P : Program} {w : World} {K : PySem.W.Frag} {mg : Str → Option Value} {base : Heap} {CF CP CE : Addr}
def spNan (CF : Addr) : Sp := fun vs H Q _ => vs = [] ∧ NewF CF .nan H Q
theorem sc_nan : FnScope [] [] (defScope s_nan) := ⟨rfl, rfl, rfl, by decide +kernel, rfl, by decide +kernel, by decide +kernel⟩
theorem ok_nan (T : AllP K mg CF CP CE) (k_Float_init : KnC P w K mg base CX0 2 "Float" CF ["self", "sign", "top", "power"] (spInit CF)) : Kn P w K mg base CX0 4 "nan" [] (spNan CF) := by
  refine T.x_nan.kn fun f fd F => ?_
  refine F.ok sc_nan (fun vs H Q E h => ?_) (fun cdv A outer s H vs Q E hr h => ?_)
  · obtain ⟨rfl, _⟩ := h
    rfl
  · obtain ⟨rfl, q⟩ := h
    refine ⟨_, (pss_one (ps_ret (pkC k_Float_init hr (pa_cons pe_int (pa_cons pe_str (pa_cons pe_int pa_nil)))))), ?_⟩
    repeat walk_at "rd"
    exact u_Float (.inr (.inr ⟨rfl, rfl, rfl, rfl⟩)) fun x H' s1 n1 h1 => q x H' s1 n1 h1
/-- added(f, g), no nan among them -/
def spAdded (CF : Addr) : Sp := fun vs H Q _ => ∃ a b f g, vs = [.ref a, .ref b] ∧ FlAt CF H a f ∧ FlAt CF H b g ∧ f.ok ∧ g.ok ∧ f ≠ .nan ∧ g ≠ .nan ∧ ∀ x H', Same H H' → FlAt CF H' x (addM f g) → Q (.ref x) H'
theorem s_inf {a : Str} (h : ¬ a = "inf" := by decide +kernel) : ¬ V.str a = V.str "inf" := fun z => h (V.str.inj z)
theorem sc_added : FnScope ["one", "other", "first", "second", "top"] ["one", "other"] (defScope s_added) := ⟨rfl, rfl, rfl, by decide +kernel, rfl, by decide +kernel, by decide +kernel⟩
theorem ok_added (T : AllP K mg CF CP CE) (k_nan : Kn P w K mg base CX0 4 "nan" [] (spNan CF)) (k_Float_init : KnC P w K mg base CX0 2 "Float" CF ["self", "sign", "top", "power"] (spInit CF)) (k_Float_ratio : KnM P w K mg base CX0 1 CF "ratio" ["self"] (spRatio CF))
    (k_sign_of : Kn P w K mg base CX0 1 "sign_of" ["is_negative"] spSign) (k_nearest : Kn P w K mg base CX0 5 "nearest" ["sign", "top", "bottom"] (spNear CF)) : Kn P w K mg base CX0 6 "added" ["one", "other"] (spAdded CF) := by
  refine T.x_added.kn fun f fd F => ?_
  refine F.ok sc_added (fun vs H Q E h => ?_) (fun cdv A outer s H vs Q E hr h => ?_)
  · obtain ⟨a, b, f, g, rfl, _⟩ := h
    rfl
  · obtain ⟨a, b, f, g, rfl, hf, hg, okf, okg, nf, ng, q⟩ := h
    refine ⟨_, (pss_cons (ps_if (PW.pt (pw_or (pt_cmpR op_eq (pe_fld (pv 0) rfl) pe_str (nomark _)) (pw_or1 (pt_cmpR op_eq (pe_fld (pv 1) rfl) pe_str (nomark _))))) (pss_cons (ps_if (PW.pt (pw_and (pt_cmpR op_eq (pe_fld (pv 0) rfl) (pe_fld (pv 1) rfl) (nomark _)) (pw_and1 (pt_cmpR op_ne (pe_fld (pv 0) rfl) (pe_fld (pv 1) rfl) (nomark _))))) (pss_one (ps_ret (pk0 k_nan hr))) pss_nil)
      (pss_one (ps_ret (pe_ifExp (pt_cmpR op_eq (pe_fld (pv 0) rfl) pe_str (nomark _)) (pv 0) (pv 1))))) pss_nil)
      (pss_cons (ps_if (PW.pt (pw_and (pt_cmpR op_eq (pe_fld (pv 0) rfl) pe_int (nomark _)) (pw_and1 (pt_cmpR op_eq (pe_fld (pv 1) rfl) pe_int (nomark _))))) (pss_one (ps_ret (pkC k_Float_init hr (pa_cons (pe_callB (call_max2 rfl) (by rfl) T.b_max boot_max (pa_cons (pe_fld (pv 0) rfl) (pa_cons (pe_fld (pv 1) rfl) pa_nil))) (pa_cons pe_int (pa_cons pe_int pa_nil)))))) pss_nil)
      (pss_cons (ps_par (by rfl) sc_added.nd (i := 2) (j := 3) rfl rfl (by decide) rfl rfl (pa_cons (pkM0 k_Float_ratio T.l_Float hr (pv 0) rfl) (pa_cons (pkM0 k_Float_ratio T.l_Float hr (pv 1) rfl) pa_nil)) (by rfl))
      (pss_cons (ps_set (i := 4) sc_added.nd rfl (Or.inl rfl) (pe_op op_add (pe_op op_mulX (pe_ix ix_tup (pv 2) pe_int (fun _ _ => rfl)) (pe_ix ix_tup (pv 3) pe_int (fun _ _ => rfl))) (pe_op op_mulX (pe_ix ix_tup (pv 3) pe_int (fun _ _ => rfl)) (pe_ix ix_tup (pv 2) pe_int (fun _ _ => rfl)))))
      (pss_one (ps_ret (pk k_nearest hr (pa_cons (pk k_sign_of hr (pa_cons (pe_cmpR op_lt (pv 4) pe_int (nomark _)) pa_nil)) (pa_cons (pe_callB call_abs (by rfl) T.b_abs boot_abs (pa_cons (pv 4) pa_nil)) (pa_cons (pe_op op_mulX (pe_ix ix_tup (pv 2) pe_int (fun _ _ => rfl)) (pe_ix ix_tup (pv 3) pe_int (fun _ _ => rfl))) pa_nil)))))))))), ?_⟩
    obtain ⟨dx, h1⟩ := id hf
    obtain ⟨dy, h2⟩ := id hg
    repeat walk_at "rd"
    refine w_fldI h1 T.l_Float T.n_top (flds_t _ _ _) ?_
    repeat walk_at "rd"
    cases f with
    | nan => exact absurd rfl nf
    | inf s =>
      refine w_eqS ?_
      repeat walk_at "rd"
      refine iD (fun _ => ?_) (fun z => absurd rfl z)
      refine iT ?_
      repeat walk_at "rd"
      refine w_fldI h1 T.l_Float T.n_top (flds_t _ _ _) ?_
      repeat walk_at "rd"
      refine w_fldI h2 T.l_Float T.n_top (flds_t _ _ _) ?_
      cases g with
      | nan => exact absurd rfl ng
      | inf r =>
        refine w_eqS ?_
        repeat walk_at "rd"
        refine iD (fun _ => ?_) (fun z => absurd rfl z)
        repeat walk_at "rd"
        refine w_fldI h1 T.l_Float T.n_sign (flds_s _ _ _) ?_
        repeat walk_at "rd"
        refine w_fldI h2 T.l_Float T.n_sign (flds_s _ _ _) ?_
        refine w_neI ?_
        repeat walk_at "rd"
        rw [addM_ii] at q
        refine iN (fun z => ?_) (fun z => ?_)
        · rw [if_neg (show ¬ s = r from z)] at q
          repeat walk_at "rd"
          exact ⟨rfl, fun x H' s1 n1 h1 => q x H' s1 h1⟩
        · rw [if_pos (show s = r from z)] at q
          repeat walk_at "rd"
          refine w_fldI h1 T.l_Float T.n_top (flds_t _ _ _) ?_
          repeat walk_at "rd"
          refine w_eqS ?_
          repeat walk_at "rd"
          refine iD (fun _ => ?_) (fun z => absurd rfl z)
          repeat walk_at "rd"
          exact q a H (Same.refl H) hf
      | fin r u p2 =>
        refine w_eqSI ?_
        repeat walk_at "rd"
        refine w_fldI h1 T.l_Float T.n_top (flds_t _ _ _) ?_
        repeat walk_at "rd"
        refine w_eqS ?_
        repeat walk_at "rd"
        refine iD (fun _ => ?_) (fun z => absurd rfl z)
        repeat walk_at "rd"
        exact q a H (Same.refl H) hf
    | fin s t p =>
      refine w_eqIS ?_
      repeat walk_at "rd"
      refine w_fldI h2 T.l_Float T.n_top (flds_t _ _ _) ?_
      repeat walk_at "rd"
      cases g with
      | nan => exact absurd rfl ng
      | inf r =>
        refine w_eqS ?_
        repeat walk_at "rd"
        refine iD (fun _ => ?_) (fun z => absurd rfl z)
        repeat walk_at "rd"
        refine w_fldI h1 T.l_Float T.n_top (flds_t _ _ _) ?_
        repeat walk_at "rd"
        refine w_fldI h2 T.l_Float T.n_top (flds_t _ _ _) ?_
        refine w_eqIS ?_
        repeat walk_at "rd"
        refine w_fldI h1 T.l_Float T.n_top (flds_t _ _ _) ?_
        repeat walk_at "rd"
        refine w_eqIS ?_
        repeat walk_at "rd"
        exact q b H (Same.refl H) hg
      | fin r u p2 =>
        refine w_eqIS ?_
        repeat walk_at "rd"
        refine w_fldI h1 T.l_Float T.n_top (flds_t _ _ _) ?_
        repeat walk_at "rd"
        refine w_eqI ?_
        repeat walk_at "rd"
        rw [addM_ff] at q
        have tb := top_bits okf okg
        have bb := bot_bits okf okg
        have bp := Int.mul_pos (ratB_pos p) (ratB_pos p2)
        refine iD (fun z1 => ?_) (fun z1 => ?_)
        · repeat walk_at "rd"
          refine w_fldI h2 T.l_Float T.n_top (flds_t _ _ _) ?_
          repeat walk_at "rd"
          refine w_eqI ?_
          repeat walk_at "rd"
          refine iD (fun z2 => ?_) (fun z2 => ?_)
          · rw [if_pos (show t = 0 ∧ u = 0 from ⟨z1, z2⟩)] at q
            repeat walk_at "rd"
            refine w_fldI h1 T.l_Float T.n_sign (flds_s _ _ _) ?_
            repeat walk_at "rd"
            refine w_fldI h2 T.l_Float T.n_sign (flds_s _ _ _) ?_
            repeat walk_at "rd"
            refine u_Float (.inl ⟨0, rfl, by decide, ?_, by rw [red_zero]; decide, rfl⟩) fun x H' s1 n1 k1 => ?_
            · obtain ⟨g1, _⟩ := okf
              obtain ⟨g2, _⟩ := okg
              show (if r > s then r else s) = 1 ∨ (if r > s then r else s) = -1
              split <;> assumption
            · rw [red_zero] at k1
              exact q x H' s1 k1
          · rw [if_neg (show ¬ (t = 0 ∧ u = 0) from fun z => z2 z.2)] at q
            repeat walk_at "rd"
            refine w_methI h1 (lk_rat _ _ _) ?_
            repeat walk_at "rd"
            refine ⟨a, s, t, p, rfl, hf, okf, fun q1 H1 s1 n1 e1 => ?_⟩
            repeat walk_at "rd"
            refine w_methI (s1 _ _ h2) (lk_rat _ _ _) ?_
            repeat walk_at "rd"
            refine ⟨b, r, u, p2, rfl, hg.same s1, okg, fun q2 H2 s2 n2 e2 => ?_⟩
            have e1 := s2 _ _ e1
            repeat walk_at "rd"
            refine w_ixT e1 (v := .int (ratT s t p)) rfl ?_
            repeat walk_at "rd"
            refine w_ixT e2 (v := .int (ratB p2)) rfl ?_
            refine w_I (cmulx (i := ratT s t p) (j := ratB p2) (by have := ratT_b okf; omega) (by have := ratB_b okg; omega)) ?_
            repeat walk_at "rd"
            refine w_ixT e2 (v := .int (ratT r u p2)) rfl ?_
            repeat walk_at "rd"
            refine w_ixT e1 (v := .int (ratB p)) rfl ?_
            refine w_I (cmulx (i := ratT r u p2) (j := ratB p) (by have := ratT_b okg; omega) (by have := ratB_b okf; omega)) ?_
            repeat walk_at "rd"
            refine ⟨_, rfl, ?_⟩
            repeat walk_at "rd"
            refine w_ixT e1 (v := .int (ratB p)) rfl ?_
            repeat walk_at "rd"
            refine w_ixT e2 (v := .int (ratB p2)) rfl ?_
            refine w_I (cmulx (i := ratB p) (j := ratB p2) (by have := ratB_b okf; omega) (by have := ratB_b okg; omega)) ?_
            repeat walk_at "rd"
            have es : (if decide (ratT s t p * ratB p2 + ratT r u p2 * ratB p < 0) = true then (-1 : Int) else 1) = if ratT s t p * ratB p2 + ratT r u p2 * ratB p < 0 then -1 else 1 := by simp only [decide_eq_true_eq]
            rw [es]
            exact ⟨_, _, _, rfl, sgn_pm _, abs_nn _, bp, by rw [bits_abs]; omega, by omega, fun x H' s3 n3 h3 => q x H' (s1.trans (s2.trans s3)) h3⟩
        · rw [if_neg (show ¬ (t = 0 ∧ u = 0) from fun z => z1 z.1)] at q
          repeat walk_at "rd"
          refine w_methI h1 (lk_rat _ _ _) ?_
          repeat walk_at "rd"
          refine ⟨a, s, t, p, rfl, hf, okf, fun q1 H1 s1 n1 e1 => ?_⟩
          repeat walk_at "rd"
          refine w_methI (s1 _ _ h2) (lk_rat _ _ _) ?_
          repeat walk_at "rd"
          refine ⟨b, r, u, p2, rfl, hg.same s1, okg, fun q2 H2 s2 n2 e2 => ?_⟩
          have e1 := s2 _ _ e1
          repeat walk_at "rd"
          refine w_ixT e1 (v := .int (ratT s t p)) rfl ?_
          repeat walk_at "rd"
          refine w_ixT e2 (v := .int (ratB p2)) rfl ?_
          refine w_I (cmulx (i := ratT s t p) (j := ratB p2) (by have := ratT_b okf; omega) (by have := ratB_b okg; omega)) ?_
          repeat walk_at "rd"
          refine w_ixT e2 (v := .int (ratT r u p2)) rfl ?_
          repeat walk_at "rd"
          refine w_ixT e1 (v := .int (ratB p)) rfl ?_
          refine w_I (cmulx (i := ratT r u p2) (j := ratB p) (by have := ratT_b okg; omega) (by have := ratB_b okf; omega)) ?_
          repeat walk_at "rd"
          refine ⟨_, rfl, ?_⟩
          repeat walk_at "rd"
          refine w_ixT e1 (v := .int (ratB p)) rfl ?_
          repeat walk_at "rd"
          refine w_ixT e2 (v := .int (ratB p2)) rfl ?_
          refine w_I (cmulx (i := ratB p) (j := ratB p2) (by have := ratB_b okf; omega) (by have := ratB_b okg; omega)) ?_
          repeat walk_at "rd"
          have es : (if decide (ratT s t p * ratB p2 + ratT r u p2 * ratB p < 0) = true then (-1 : Int) else 1) = if ratT s t p * ratB p2 + ratT r u p2 * ratB p < 0 then -1 else 1 := by simp only [decide_eq_true_eq]
          rw [es]
          exact ⟨_, _, _, rfl, sgn_pm _, abs_nn _, bp, by rw [bits_abs]; omega, by omega, fun x H' s3 n3 h3 => q x H' (s1.trans (s2.trans s3)) h3⟩
end
end Nu

set_option Elab.async false
set_option linter.all false
set_option maxRecDepth 100000
set_option autoImplicit false
set_option maxHeartbeats 4000000
namespace Nu
open PySem PySem.Spec PyProof.Rows L2 Rd
local macro_rules | `(tactic| walk_at "hp") => `(tactic| first | assumption | (refine same_get ?sm ?_; (case sm => assumption); walk_at "hp"))
local macro_rules | `(tactic| walk_at "rd") => `(tactic| first
  | with_reducible refine w_nx ?_
  | with_reducible refine w_rt ?_
  | with_reducible refine w_bk ?_
  | with_reducible refine w_ct ?_
  | with_reducible refine w_seq ?_
  | with_reducible refine w_next ?_
  | with_reducible refine w_ret ?_
  | with_reducible refine w_ifS ?_
  | with_reducible refine w_asg ?_
  | with_reducible refine w_name ?_
  | with_reducible refine w_par ?_
  | with_reducible refine w_parI ?_
  | with_reducible refine w_ii ?_
  | with_reducible refine w_i1 ?_
  | with_reducible refine w_drop ?_
  | with_reducible refine w_sFld ?_
  | ((with_reducible refine' w_var ?rdh ?_); (case rdh => exact rfl))
  | with_reducible refine w_c ?_
  | with_reducible refine w_op ?_
  | with_reducible refine w_un ?_
  | with_reducible refine w_I0 ?_
  | with_reducible refine w_U ?_
  | with_reducible refine w_bits ?_
  | with_reducible refine w_bitsI ?_
  | with_reducible refine w_tup ?_
  | with_reducible refine w_lst ?_
  | with_reducible refine w_nil ?_
  | with_reducible refine w_cons ?_
  | with_reducible refine w_fld ?_
  | with_reducible refine w_call ?_
  | with_reducible refine w_make ?_
  | with_reducible refine w_gsub ?_
  | with_reducible refine w_int1 ?_
  | with_reducible refine w_intB ?_
  | with_reducible refine w_for ?_
  | with_reducible refine w_rng1 ?_
  | with_reducible refine w_iList ?_
  | with_reducible refine w_iTup ?_
  | with_reducible refine w_makeD ?_
  | with_reducible refine w_nn ?_
  | with_reducible refine w_subB ?_
  | with_reducible refine w_meth ?_
  | with_reducible refine w_cb ?_
  | with_reducible refine w_test ?_
  | with_reducible refine w_B ?_
  | with_reducible refine w_bl ?_
  | with_reducible refine w_andV ?_
  | with_reducible refine w_orV ?_
  | with_reducible refine w_notV ?_
  | with_reducible refine w_and ?_
  | with_reducible refine w_or ?_
  | with_reducible refine w_not ?_
  | with_reducible refine w_if ?_
  | with_reducible refine w_gnil ?_
  | with_reducible refine w_gcons ?_
  | with_reducible refine iT ?_
  | with_reducible refine iF ?_
  | with_reducible refine w_eqI ?_
  | with_reducible refine w_neI ?_
  | with_reducible refine w_eqS ?_
  | with_reducible refine w_eqIS ?_
  | with_reducible refine w_eqSI ?_)

section
variable {P : Program} {w : World} {K : PySem.W.Frag} {mg : Str → Option Value} {base : Heap} {CF CP CE : Addr}
theorem u_nan {H : Hp} {Q : VK} {E : XK} (q : NewF CF .nan H Q) : spNan CF ([] ++ []) H Q E := ⟨rfl, q⟩
def isNan : Fl → Bool
  | .nan => true
  | _ => false
theorem Fl.flat (f : Fl) : flatV f.t = true := by cases f <;> rfl
theorem nan_in1 (f : Fl) : eqV f.t (.str "nan") = isNan f := by
  cases f with
  | fin s t p => rfl
  | inf s => show eqV (.str "inf") (.str "nan") = false; decide +kernel
  | nan => decide +kernel
theorem addM_nan {f g : Fl} (h : (isNan f || isNan g) = true) : addM f g = .nan := by
  cases f <;> cases g <;> first | rfl | exact absurd h Bool.false_ne_true
theorem not_nan {f : Fl} (h : isNan f = false) : f ≠ .nan := fun e => by
  rw [e] at h
  cases h
def spByF (CF : Addr) : Sp := fun vs H Q _ => ∃ a b f g, vs = [.str "add", .ref a, .ref b] ∧ FlAt CF H a f ∧ FlAt CF H b g ∧ f.ok ∧ g.ok ∧ ∀ x H', Same H H' → FlAt CF H' x (addM f g) → Q (.ref x) H'
theorem sc_by_floats : FnScope ["word", "one", "other", "found"] ["word", "one", "other"] (defScope s_by_floats) := ⟨rfl, rfl, rfl, by decide +kernel, rfl, by decide +kernel, by decide +kernel⟩
theorem ok_by_floats (T : AllP K mg CF CP CE) (k_nan : Kn P w K mg base CX0 4 "nan" [] (spNan CF)) (k_added : Kn P w K mg base CX0 6 "added" ["one", "other"] (spAdded CF)) : Kn P w K mg base CX0 7 "by_floats" ["word", "one", "other"] (spByF CF) := by
  refine T.x_by_floats.kn fun f fd F => ?_
  refine F.ok sc_by_floats (fun vs H Q E h => ?_) (fun cdv A outer s H vs Q E hr h => ?_)
  · obtain ⟨a, b, f, g, rfl, _⟩ := h
    rfl
  · obtain ⟨a, b, f, g, rfl, hf, hg, okf, okg, q⟩ := h
    refine ⟨_, (pss_cons (ps_if (pt_cmpR op_in_seq pe_str (pe_tup (pa_cons (pe_fld (pv 1) rfl) (pa_cons (pe_fld (pv 2) rfl) pa_nil))) rfl) (pss_one (ps_ret (pk0 k_nan hr))) pss_nil)
      (pss_cons (ps_if (pt_cmpR op_eq (pv 0) pe_str (nomark _)) (pss_one (ps_ret (pk k_added hr (pa_cons (pv 1) (pa_cons (pv 2) pa_nil))))) pss_nil)
      (pss_cons (ps_if (pt_cmpR op_eq (pv 0) pe_str (nomark _)) (pss_one ps_never) pss_nil)
      (pss_cons (ps_if (pt_cmpR op_eq (pv 0) pe_str (nomark _)) (pss_one ps_never) pss_nil)
      (pss_cons (ps_if (pt_cmpR op_eq (pv 0) pe_str (nomark _)) (pss_one ps_never) pss_nil)
      (pss_cons ps_never
      (pss_one ps_never))))))), ?_⟩
    obtain ⟨dx, h1⟩ := id hf
    obtain ⟨dy, h2⟩ := id hg
    repeat walk_at "rd"
    refine w_fldI h1 T.l_Float T.n_top (flds_t _ _ _) ?_
    repeat walk_at "rd"
    refine w_fldI h2 T.l_Float T.n_top (flds_t _ _ _) ?_
    repeat walk_at "rd"
    refine w_tup2 fun a1 H1 s1 n1 e1 => ?_
    refine w_in e1 rfl (by simp [Fl.flat]) ?_
    have ein : inV (.str "nan") [f.t, g.t] = (isNan f || isNan g) := by
      unfold inV
      simp only [List.any_cons, List.any_nil, Bool.or_false, nan_in1]
    rw [ein]
    repeat walk_at "rd"
    refine iB (fun z => ?_) (fun z => ?_)
    · rw [addM_nan z] at q
      repeat walk_at "rd"
      exact ⟨rfl, fun x H' s2 n2 h2 => q x H' (s1.trans s2) h2⟩
    · rw [Bool.or_eq_false_iff] at z
      repeat walk_at "rd"
      refine iD (fun _ => ?_) (fun z => absurd rfl z)
      repeat walk_at "rd"
      exact ⟨a, b, f, g, rfl, hf.same s1, hg.same s1, okf, okg, not_nan z.1, not_nan z.2, fun x H' s2 h2 => q x H' (s1.trans s2) h2⟩
theorem sc_arith : FnScope ["word", "one", "other"] ["word", "one", "other"] (defScope s_arith) := ⟨rfl, rfl, rfl, by decide +kernel, rfl, by decide +kernel, by decide +kernel⟩
theorem ok_arith (T : AllP K mg CF CP CE) (k_by_floats : Kn P w K mg base CX0 7 "by_floats" ["word", "one", "other"] (spByF CF)) (k_to_float : Kn P w K mg base CX0 6 "to_float" ["number"] (spToF K CF)) : Kn P w K mg base CX0 8 "arith" ["word", "one", "other"] (spByF CF) := by
  refine T.x_arith.kn fun f fd F => ?_
  refine F.ok sc_arith (fun vs H Q E h => ?_) (fun cdv A outer s H vs Q E hr h => ?_)
  · obtain ⟨a, b, f, g, rfl, _⟩ := h
    rfl
  · obtain ⟨a, b, f, g, rfl, hf, hg, okf, okg, q⟩ := h
    refine ⟨_, (pss_cons (ps_if (pt_cmpR op_in_seq (pv 0) (pe_tup (pa_cons pe_str (pa_cons pe_str (pa_cons pe_str (pa_cons pe_str (pa_cons pe_str pa_nil)))))) rfl) (pss_one ps_never) pss_nil)
      (pss_cons (ps_if (PW.pt (pw_or (pt_cmpR op_eq (pv 0) pe_str (nomark _)) (pw_or (pt_val (pe_callB call_isi (by rfl) T.b_isinstance boot_isinstance (pa_cons (pv 1) (pa_cons (pg "Float" T.g_Float (rref _)) pa_nil)))) (pw_or1 (pt_val (pe_callB call_isi (by rfl) T.b_isinstance boot_isinstance (pa_cons (pv 2) (pa_cons (pg "Float" T.g_Float (rref _)) pa_nil)))))))) (pss_one (ps_ret (pk k_by_floats hr (pa_cons (pv 0) (pa_cons (pk k_to_float hr (pa_cons (pv 1) pa_nil)) (pa_cons (pk k_to_float hr (pa_cons (pv 2) pa_nil)) pa_nil)))))) pss_nil)
      (pss_cons ps_never
      (pss_cons ps_never
      (pss_one ps_never))))), ?_⟩
    obtain ⟨dx, h1⟩ := id hf
    repeat walk_at "rd"
    refine w_tupI (by show 5 ≤ 1000; decide) fun a1 H1 s1 n1 e1 => ?_
    refine w_in e1 rfl rfl ?_
    have ein : inV (.str "add") [.str "band", .str "bor", .str "bxor", .str "shl", .str "shr"] = false := by decide +kernel
    rw [ein]
    repeat walk_at "rd"
    refine iD (fun z => absurd z (by decide +kernel)) (fun _ => ?_)
    repeat walk_at "rd"
    obtain ⟨t, ty, i1, i2, i3, i4⟩ := says_fl T.toAll (s1 _ _ h1)
    refine w_isi (.own CF) ty i4 ?_
    repeat walk_at "rd"
    refine .inl ⟨a, f, rfl, hf.same s1, ?_⟩
    repeat walk_at "rd"
    refine .inl ⟨b, g, rfl, hg.same s1, ?_⟩
    repeat walk_at "rd"
    exact ⟨a, b, f, g, rfl, hf.same s1, hg.same s1, okf, okg, fun x H' s2 h2 => q x H' (s1.trans s2) h2⟩
/-! ### is_within -/
def within (n st lm : Nm) : Bool := if cmpV "lt" (.int 0) st = true then cmpV "le" n lm else cmpV "le" lm n
def spWithin (CF : Addr) : Sp := fun vs H Q _ => ∃ x y z n st lm, vs = [x, y, z] ∧ NmAt CF H x n ∧ NmAt CF H y st ∧ NmAt CF H z lm ∧ ∀ H', Same H H' → Q (.bl (within n st lm)) H'
theorem u_cmp {wd : Str} {x y : V} {n m : Nm} {H : Hp} {Q : VK} {E : XK} (hn : NmAt CF H x n) (hm : NmAt CF H y m) (q : ∀ H', Same H H' → Q (.bl (cmpV wd n m)) H') : spCompare CF ([V.str wd, x, y] ++ []) H Q E := ⟨wd, x, y, n, m, rfl, hn, hm, q⟩
theorem sc_is_within : FnScope ["number", "step", "limit"] ["number", "step", "limit"] (defScope s_is_within) := ⟨rfl, rfl, rfl, by decide +kernel, rfl, by decide +kernel, by decide +kernel⟩
theorem ok_is_within (T : AllP K mg CF CP CE) (k_compare : Kn P w K mg base CX0 4 "compare" ["word", "one", "other"] (spCompare CF)) : Kn P w K mg base CX0 5 "is_within" ["number", "step", "limit"] (spWithin CF) := by
  refine T.x_is_within.kn fun f fd F => ?_
  refine F.ok sc_is_within (fun vs H Q E h => ?_) (fun cdv A outer s H vs Q E hr h => ?_)
  · obtain ⟨x, y, z, n, st, lm, rfl, _⟩ := h
    rfl
  · obtain ⟨x, y, z, n, st, lm, rfl, hn, hst, hlm, q⟩ := h
    refine ⟨_, (pss_one (ps_ret (pe_ifExp (pt_val (pk k_compare hr (pa_cons pe_str (pa_cons pe_int (pa_cons (pv 1) pa_nil))))) (pk k_compare hr (pa_cons pe_str (pa_cons (pv 0) (pa_cons (pv 2) pa_nil)))) (pk k_compare hr (pa_cons pe_str (pa_cons (pv 2) (pa_cons (pv 0) pa_nil))))))), ?_⟩
    repeat walk_at "rd"
    refine u_cmp (n := .int 0) ⟨rfl, by decide⟩ hst fun H1 s1 => ?_
    unfold within at q
    repeat walk_at "rd"
    refine iB (fun c => ?_) (fun c => ?_)
    · rw [if_pos c] at q
      repeat walk_at "rd"
      exact u_cmp (hn.same s1) (hlm.same s1) fun H2 s2 => q H2 (s1.trans s2)
    · rw [if_neg (by rw [c]; exact Bool.false_ne_true)] at q
      repeat walk_at "rd"
      exact u_cmp (hlm.same s1) (hn.same s1) fun H2 s2 => q H2 (s1.trans s2)
/-! ### ForPlan -/
def pfs (v st lf lm : V) : List (Str × V) := [("value", v), ("stride", st), ("left", lf), ("limit", lm)]
theorem p_ne : ¬ ("value" : Str) = "stride" ∧ ¬ ("value" : Str) = "left" ∧ ¬ ("value" : Str) = "limit" ∧ ¬ ("stride" : Str) = "left" ∧ ¬ ("stride" : Str) = "limit" ∧ ¬ ("left" : Str) = "limit" := by decide +kernel
theorem pfs_mk (v st lf lm : V) : putF "limit" lm (putF "left" lf (putF "stride" st (putF "value" v []))) = pfs v st lf lm := by
  obtain ⟨h1, h2, h3, h4, h5, h6⟩ := p_ne
  simp only [putF, if_neg h1, if_neg h2, if_neg h3, if_neg h4, if_neg h5, if_neg h6, pfs]
theorem pfs_v (v v' st lf lm : V) : putF "value" v' (pfs v st lf lm) = pfs v' st lf lm := by simp only [pfs, putF, if_true]
theorem pfs_l (v lf' st lf lm : V) : putF "left" lf' (pfs v st lf lm) = pfs v st lf' lm := by
  obtain ⟨h1, h2, h3, h4, h5, h6⟩ := p_ne
  simp only [pfs, putF, if_neg h2, if_neg h4, if_true]
theorem lk_v (v st lf lm : V) : (pfs v st lf lm).lookup ("value" : Str) = some v := by simp [pfs, List.lookup]
theorem lk_s (v st lf lm : V) : (pfs v st lf lm).lookup ("stride" : Str) = some st := by rw [← pfs_mk, lookup_putF, if_neg p_ne.2.2.2.2.1, lookup_putF, if_neg p_ne.2.2.2.1, lookup_putF, if_pos rfl]
theorem lk_l (v st lf lm : V) : (pfs v st lf lm).lookup ("left" : Str) = some lf := by rw [← pfs_mk, lookup_putF, if_neg p_ne.2.2.2.2.2, lookup_putF, if_pos rfl]
theorem lk_m (v st lf lm : V) : (pfs v st lf lm).lookup ("limit" : Str) = some lm := by rw [← pfs_mk, lookup_putF, if_pos rfl]
theorem lk_g (v st lf lm : V) : (pfs v st lf lm).lookup ("goes_on" : Str) = none := by
  rw [← pfs_mk, lookup_putF, if_neg (by decide +kernel), lookup_putF, if_neg (by decide +kernel), lookup_putF, if_neg (by decide +kernel), lookup_putF, if_neg (by decide +kernel)]
  rfl
theorem len_p (v st lf lm : V) : (pfs v st lf lm).length < 1000 := by show 4 < 1000; decide
def PlanAt (CP : Addr) (H : Hp) (a : Addr) (v st lf lm : V) : Prop := ∃ dx, H a = some (.ins CP dx (pfs v st lf lm))
theorem PlanAt.same {H H' : Hp} {a : Addr} {v st lf lm : V} (h : PlanAt CP H a v st lf lm) (s : Same H H') : PlanAt CP H' a v st lf lm := let ⟨dx, e⟩ := h; ⟨dx, s _ _ e⟩
def spPInit (C : Addr) : Sp := fun vs H Q _ => ∃ x dx v st lf lm, vs = [.ref x, v, st, lf, lm] ∧ H x = some (.ins C dx []) ∧ ∀ H', Oth x H H' → H' x = some (.ins C dx (pfs v st lf lm)) → Q .non H'
theorem sc_ForPlan_init : FnScope ["self", "value", "step", "left", "limit"] ["self", "value", "step", "left", "limit"] (defScope s_ForPlan_init) := ⟨rfl, rfl, rfl, by decide +kernel, rfl, by decide +kernel, by decide +kernel⟩
theorem ok_plan (T : AllP K mg CF CP CE) : KnC P w K mg base CX0 1 "ForPlan" CP ["self", "value", "step", "left", "limit"] (spPInit CP) := by
  refine T.x_ForPlan.kn fun f fd F => ?_
  refine F.ok sc_ForPlan_init (fun vs H Q E h => ?_) (fun cdv A outer s H vs Q E hr h => ?_)
  · obtain ⟨x, dx, v, st, lf, lm, rfl, _⟩ := h
    rfl
  · obtain ⟨x, dx, v, st, lf, lm, rfl, hx, q⟩ := h
    refine ⟨_, (pss_cons (ps_fld (pv 0) (pv 1) rfl)
      (pss_cons (ps_fld (pv 0) (pv 2) rfl)
      (pss_cons (ps_fld (pv 0) (pv 3) rfl)
      (pss_one (ps_fld (pv 0) (pv 4) rfl))))), ?_⟩
    repeat walk_at "rd"
    refine w_sfI hx T.l_ForPlan T.n_value (by decide) ?_
    repeat walk_at "rd"
    refine w_sfI upd_same T.l_ForPlan T.n_stride (by show 1 < 1000; decide) ?_
    repeat walk_at "rd"
    refine w_sfI upd_same T.l_ForPlan T.n_left (by show _ < 1000; exact Nat.lt_of_le_of_lt (length_putF _ _ _) (by show 1 + 1 < 1000; decide)) ?_
    repeat walk_at "rd"
    refine w_sfI upd_same T.l_ForPlan T.n_limit (by show _ < 1000; exact Nat.lt_of_le_of_lt (length_putF _ _ _) (Nat.lt_of_le_of_lt (Nat.succ_le_succ (length_putF _ _ _)) (by show 1 + 1 + 1 < 1000; decide))) ?_
    rw [pfs_mk]
    exact q _ Oth.refl.put.put.put.put upd_same
theorem u_plan {v st lf lm : V} {H : Hp} {Q : VK} {E : XK} (q : ∀ x H', Same H H' → H x = none → PlanAt CP H' x v st lf lm → Q (.ref x) H') : MakeK CP (spPInit CP) [v, st, lf, lm] H Q E := by
  intro x dx hx hdx ne
  refine ⟨x, dx, v, st, lf, lm, rfl, upd_same, fun H' k hx' => ⟨rfl, q x H' (fun b o e => k b o (ne_of_none e hx) ?_) hx ⟨dx, hx'⟩⟩⟩
  rw [upd_ne (ne_of_none e hx), upd_ne (ne_of_none e hdx)]
  exact e
end
end Nu

set_option Elab.async false
set_option linter.all false
set_option maxRecDepth 100000
set_option autoImplicit false
set_option maxHeartbeats 4000000
namespace Rd
open PySem PySem.Spec PyProof.Rows L2
def CDivZ (_ j : Int) : Prop := j ≠ 0 ∧ j.natAbs.log2 < 9000
theorem op_fdivZ {X : Cx} : OpR X (binaryOp .FloorDiv) (rI CDivZ fun i j => .int (i.fdiv j)) := opI fun _ _ _ _ _ _ _ hc q => floordiv_int hc.1 q (.inl (PyProof.noPylong_of_log2 hc.2))
theorem cdivz {i j : Int} (h : j ≠ 0) (hb : j.natAbs < 2 ^ 70) : CDivZ i j := ⟨h, Nat.lt_of_lt_of_le (PySem.Flt.log2_lt_of (by decide) hb) (by decide)⟩
theorem w_notN {σ : L2.St} {H : Hp} {x : V} {Q : VK} (q : Q (.bl (!decide (x = .non))) H) : V.non = .non ∧ Q (.bl (!decide (x = .non))) H := ⟨rfl, q⟩
end Rd
namespace Nu
open PySem PySem.Spec PyProof.Rows L2 Rd
local macro_rules | `(tactic| walk_at "hp") => `(tactic| first | assumption | (refine same_get ?sm ?_; (case sm => assumption); walk_at "hp"))
local macro_rules | `(tactic| walk_at "rd") => `(tactic| first
  | with_reducible refine w_nx ?_
  | with_reducible refine w_rt ?_
  | with_reducible refine w_bk ?_
  | with_reducible refine w_ct ?_
  | with_reducible refine w_seq ?_
  | with_reducible refine w_next ?_
  | with_reducible refine w_ret ?_
  | with_reducible refine w_ifS ?_
  | with_reducible refine w_asg ?_
  | with_reducible refine w_name ?_
  | with_reducible refine w_par ?_
  | with_reducible refine w_parI ?_
  | with_reducible refine w_ii ?_
  | with_reducible refine w_i1 ?_
  | with_reducible refine w_drop ?_
  | with_reducible refine w_sFld ?_
  | ((with_reducible refine' w_var ?rdh ?_); (case rdh => exact rfl))
  | with_reducible refine w_c ?_
  | with_reducible refine w_op ?_
  | with_reducible refine w_un ?_
  | with_reducible refine w_I0 ?_
  | with_reducible refine w_U ?_
  | with_reducible refine w_bits ?_
  | with_reducible refine w_bitsI ?_
  | with_reducible refine w_tup ?_
  | with_reducible refine w_lst ?_
  | with_reducible refine w_nil ?_
  | with_reducible refine w_cons ?_
  | with_reducible refine w_fld ?_
  | with_reducible refine w_call ?_
  | with_reducible refine w_make ?_
  | with_reducible refine w_gsub ?_
  | with_reducible refine w_int1 ?_
  | with_reducible refine w_intB ?_
  | with_reducible refine w_for ?_
  | with_reducible refine w_rng1 ?_
  | with_reducible refine w_iList ?_
  | with_reducible refine w_iTup ?_
  | with_reducible refine w_makeD ?_
  | with_reducible refine w_nn ?_
  | with_reducible refine w_subB ?_
  | with_reducible refine w_meth ?_
  | with_reducible refine w_cb ?_
  | with_reducible refine w_test ?_
  | with_reducible refine w_B ?_
  | with_reducible refine w_bl ?_
  | with_reducible refine w_andV ?_
  | with_reducible refine w_orV ?_
  | with_reducible refine w_notV ?_
  | with_reducible refine w_and ?_
  | with_reducible refine w_or ?_
  | with_reducible refine w_not ?_
  | with_reducible refine w_if ?_
  | with_reducible refine w_gnil ?_
  | with_reducible refine w_gcons ?_
  | with_reducible refine iT ?_
  | with_reducible refine iF ?_
  | with_reducible refine w_eqI ?_
  | with_reducible refine w_neI ?_
  | with_reducible refine w_eqS ?_
  | with_reducible refine w_eqIS ?_
  | with_reducible refine w_eqSI ?_)

section
variable {P : Program} {w : World} {K : PySem.W.Frag} {mg : Str → Option Value} {base : Heap} {CF CP CE : Addr}
theorem u_arith {a b : Addr} {f g : Fl} {H : Hp} {Q : VK} {E : XK} (hf : FlAt CF H a f) (hg : FlAt CF H b g) (okf : f.ok) (okg : g.ok) (q : ∀ x H', Same H H' → FlAt CF H' x (addM f g) → Q (.ref x) H') : spByF CF ([V.str "add", .ref a, .ref b] ++ []) H Q E := ⟨a, b, f, g, rfl, hf, hg, okf, okg, q⟩
theorem u_within {x y z : V} {n st lm : Nm} {H : Hp} {Q : VK} {E : XK} (hn : NmAt CF H x n) (hst : NmAt CF H y st) (hlm : NmAt CF H z lm) (q : ∀ H', Same H H' → Q (.bl (within n st lm)) H') : spWithin CF ([x, y, z] ++ []) H Q E := ⟨x, y, z, n, st, lm, rfl, hn, hst, hlm, q⟩
/-! ### goes_on -/
def spGo (CF CP : Addr) : Sp := fun vs H Q _ => ∃ a, vs = [.ref a] ∧
  ((∃ v s lf : Int, PlanAt CP H a (.int v) (.int s) (.int lf) .non ∧ (lf = 0 → Q (.bl false) H) ∧ (lf ≠ 0 → ∀ H', Oth a H H' → PlanAt CP H' a (.int (v + s)) (.int s) (.int (lf - 1)) .non → Q (.bl true) H')) ∨
   (∃ (x y z : Addr) (f g l : Fl), PlanAt CP H a (.ref x) (.ref y) .non (.ref z) ∧ FlAt CF H x f ∧ FlAt CF H y g ∧ FlAt CF H z l ∧ f.ok ∧ g.ok ∧ l.ok ∧
     ∀ x' H', Oth a H H' → PlanAt CP H' a (.ref x') (.ref y) .non (.ref z) → FlAt CF H' x' (addM f g) → Q (.bl (within (.fl (addM f g)) (.fl g) (.fl l))) H'))
theorem FlAt.oth {H H' : Hp} {a x : Addr} {f : Fl} {v st lf lm : V} (h : FlAt CF H x f) (hp : PlanAt CP H a v st lf lm) (o : Oth a H H') : FlAt CF H' x f := by
  obtain ⟨dx, e⟩ := h
  obtain ⟨dy, e2⟩ := hp
  refine ⟨dx, o _ _ ?_ e⟩
  rintro rfl
  rw [e] at e2
  cases e2
theorem sc_ForPlan_goes_on : FnScope ["self"] ["self"] (defScope s_ForPlan_goes_on) := ⟨rfl, rfl, rfl, by decide +kernel, rfl, by decide +kernel, by decide +kernel⟩
theorem ok_goes_on (T : AllP K mg CF CP CE) (k_arith : Kn P w K mg base CX0 8 "arith" ["word", "one", "other"] (spByF CF)) (k_is_within : Kn P w K mg base CX0 5 "is_within" ["number", "step", "limit"] (spWithin CF)) :
    KnM P w K mg base CX0 9 CP "goes_on" ["self"] (spGo CF CP) := by
  refine T.x_goes_on.kn fun f fd F => ?_
  refine F.ok sc_ForPlan_goes_on (fun vs H Q E h => ?_) (fun cdv A outer s H vs Q E hr h => ?_)
  · obtain ⟨a, rfl, _⟩ := h
    rfl
  · obtain ⟨a, rfl, h⟩ := h
    refine ⟨_, (pss_cons (ps_if (pt_cmpR op_notN (pe_fld (pv 0) rfl) pe_non (nomark _)) (pss_cons (ps_if (pt_cmpR op_eq (pe_fld (pv 0) rfl) pe_int (nomark _)) (pss_one (ps_ret pe_bl)) pss_nil)
      (pss_cons (ps_fld (pv 0) (pe_op op_sub (pe_fld (pv 0) rfl) pe_int) rfl)
      (pss_cons (ps_fld (pv 0) (pe_op op_add (pe_fld (pv 0) rfl) (pe_fld (pv 0) rfl)) rfl)
      (pss_one (ps_ret pe_bl))))) pss_nil)
      (pss_cons (ps_fld (pv 0) (pk k_arith hr (pa_cons pe_str (pa_cons (pe_fld (pv 0) rfl) (pa_cons (pe_fld (pv 0) rfl) pa_nil)))) rfl)
      (pss_one (ps_ret (pk k_is_within hr (pa_cons (pe_fld (pv 0) rfl) (pa_cons (pe_fld (pv 0) rfl) (pa_cons (pe_fld (pv 0) rfl) pa_nil)))))))), ?_⟩
    rcases h with ⟨v, s, lf, ⟨dx, hp⟩, q0, q1⟩ | ⟨x, y, z, f, g, l, hpl, hf, hg, hl, okf, okg, okl, q⟩
    · repeat walk_at "rd"
      refine w_fldI hp T.l_ForPlan T.n_left (lk_l _ _ _ _) ?_
      repeat walk_at "rd"
      refine iN (fun _ => ?_) (fun z => nomatch z)
      repeat walk_at "rd"
      refine w_fldI hp T.l_ForPlan T.n_left (lk_l _ _ _ _) ?_
      repeat walk_at "rd"
      refine iD (fun z => ?_) (fun z => ?_)
      · repeat walk_at "rd"
        exact q0 z
      · repeat walk_at "rd"
        refine w_fldI hp T.l_ForPlan T.n_left (lk_l _ _ _ _) ?_
        repeat walk_at "rd"
        refine w_sfI hp T.l_ForPlan T.n_left (len_p _ _ _ _) ?_
        rw [pfs_l]
        repeat walk_at "rd"
        refine w_fldI upd_same T.l_ForPlan T.n_value (lk_v _ _ _ _) ?_
        repeat walk_at "rd"
        refine w_fldI upd_same T.l_ForPlan T.n_stride (lk_s _ _ _ _) ?_
        repeat walk_at "rd"
        refine w_sfI upd_same T.l_ForPlan T.n_value (len_p _ _ _ _) ?_
        rw [pfs_v]
        repeat walk_at "rd"
        exact q1 z _ Oth.refl.put.put ⟨_, upd_same⟩
    · obtain ⟨dx, hp⟩ := id hpl
      repeat walk_at "rd"
      refine w_fldI hp T.l_ForPlan T.n_left (lk_l _ _ _ _) ?_
      repeat walk_at "rd"
      refine iN (fun z => absurd rfl z) (fun _ => ?_)
      repeat walk_at "rd"
      refine w_fldI hp T.l_ForPlan T.n_value (lk_v _ _ _ _) ?_
      repeat walk_at "rd"
      refine w_fldI hp T.l_ForPlan T.n_stride (lk_s _ _ _ _) ?_
      repeat walk_at "rd"
      refine u_arith hf hg okf okg fun x' H1 s1 e1 => ?_
      repeat walk_at "rd"
      have hp1 := s1 _ _ hp
      refine w_sfI hp1 T.l_ForPlan T.n_value (len_p _ _ _ _) ?_
      rw [pfs_v]
      have o1 : Oth a H1 (upd H1 a (.ins CP dx (pfs (.ref x') (.ref y) .non (.ref z)))) := Oth.refl.put
      have p1 := upd_same (H := H1) (a := a) (o := .ins CP dx (pfs (.ref x') (.ref y) .non (.ref z)))
      generalize upd H1 a (.ins CP dx (pfs (.ref x') (.ref y) .non (.ref z))) = H2 at o1 p1 ⊢
      have f2 := e1.oth ⟨dx, hp1⟩ o1
      have g2 := (hg.same s1).oth ⟨dx, hp1⟩ o1
      have l2 := (hl.same s1).oth ⟨dx, hp1⟩ o1
      repeat walk_at "rd"
      refine w_fldI p1 T.l_ForPlan T.n_value (lk_v _ _ _ _) ?_
      repeat walk_at "rd"
      refine w_fldI p1 T.l_ForPlan T.n_stride (lk_s _ _ _ _) ?_
      repeat walk_at "rd"
      refine w_fldI p1 T.l_ForPlan T.n_limit (lk_m _ _ _ _) ?_
      repeat walk_at "rd"
      refine u_within (n := .fl (addM f g)) (st := .fl g) (lm := .fl l) ⟨x', rfl, f2, addM_ok okf okg⟩ ⟨y, rfl, g2, okg⟩ ⟨z, rfl, l2, okl⟩ fun H3 s3 => ?_
      exact q x' H3 (((Rd.Same.oth s1).trans o1).same s3) ⟨dx, s3 _ _ p1⟩ (f2.same s3)
/-! ### the plans -/
inductive Kd8 (K : PySem.W.Frag) (CF : Addr) (H : Hp) : V → Option Nm → Prop where
  | num {x : V} {n : Nm} (h : NmAt CF H x n) : Kd8 K CF H x (some n)
  | bl (b : Bool) : Kd8 K CF H (.bl b) none
  | str (s : Str) : Kd8 K CF H (.str s) none
  | non : Kd8 K CF H .non none
theorem Kd8.same {H H' : Hp} {x : V} {n : Option Nm} (h : Kd8 K CF H x n) (s : Same H H') : Kd8 K CF H' x n := by
  cases h with
  | num h => exact .num (h.same s)
  | bl b => exact .bl b
  | str x => exact .str x
  | non => exact .non
def isBl : V → Bool
  | .bl _ => true
  | _ => false
def isSt : V → Bool
  | .str _ => true
  | _ => false
def isIn : Option Nm → Bool
  | some (.int _) => true
  | _ => false
def isFl : Option Nm → Bool
  | some (.fl _) => true
  | _ => false
theorem Kd8.says (T : AllP K mg CF CP CE) {H : Hp} {x : V} {n : Option Nm} (h : Kd8 K CF H x n) : Says K CF H x (isIn n) (isBl x) (isSt x) (isFl n) ∧ (isFl n || ((isIn n || isBl x) && !isBl x)) = n.isSome ∧ ((isIn n || isBl x) && !isBl x) = isIn n := by
  cases h with
  | @num _ m h =>
    cases m with
    | int i => obtain ⟨rfl, _⟩ := h; exact ⟨says_int T.toAll, rfl, rfl⟩
    | fl f =>
      obtain ⟨a, rfl, ⟨dx, e⟩, _⟩ := h
      exact ⟨says_fl T.toAll e, rfl, rfl⟩
  | bl b => exact ⟨says_bl T.toAll, rfl, rfl⟩
  | str s => exact ⟨says_str T.toAll, rfl, rfl⟩
  | non => exact ⟨says_non T.toAll, rfl, rfl⟩
/-- the way out by an error that tells msg -/
def ErrK (CE : Addr) (msg : Str) (H : Hp) (E : XK) : Prop := ∀ d H', Same H H' → H' d = some (.xd (thrFs (.str msg))) → E (.ref CE) (some d) H'
def clip (x : Int) : Int := if 9223372036854775807 < (if -9223372036854775808 > x then -9223372036854775808 else x) then 9223372036854775807 else (if -9223372036854775808 > x then -9223372036854775808 else x)
def lastOf (l : Nm) (s : Int) : Int := match l with
  | .int i => i
  | .fl (.fin r t p) => if 0 < s then ratT r t p / ratB p else 0 - (0 - ratT r t p) / ratB p
  | .fl _ => if 0 < s then 9223372036854775807 else -9223372036854775808
def leftOf (a : Int) (l : Nm) (s : Int) : Option Int := match ordV (.int a) l with
  | .int g => if g = (if s < 0 then -1 else 1) then none else some ((clip (lastOf l s) - a).fdiv s)
  | _ => none
def m_zero : Str := "'for' step is zero"
def m_limit : Str := "'for' limit must be a number"
def spWhole (K : PySem.W.Frag) (CF CP CE : Addr) : Sp := fun vs H Q E => ∃ (a s : Int) (y : V) (ny : Option Nm), vs = [.int a, y, .int s] ∧ bits a ≤ 70 ∧ bits s ≤ 70 ∧ Kd8 K CF H y ny ∧
  (s = 0 → ErrK CE m_zero H E) ∧ (s ≠ 0 → ny = none → ErrK CE m_limit H E) ∧
  (∀ l, s ≠ 0 → ny = some l → (leftOf a l s = none → ∀ H', Same H H' → Q .non H') ∧ ∀ lf, leftOf a l s = some lf → ∀ p H', Same H H' → H p = none → PlanAt CP H' p (.int a) (.int s) (.int lf) .non → Q (.ref p) H')
theorem u_number {x : V} {pl bo st fl : Bool} {H : Hp} {Q : VK} {E : XK} (h : Says K CF H x pl bo st fl) (q : Q (.bl (fl || ((pl || bo) && !bo))) H) : spNumber K CF ([x] ++ []) H Q E := ⟨x, pl, bo, st, fl, rfl, h, q⟩
theorem u_order {x y : V} {n m : Nm} {H : Hp} {Q : VK} {E : XK} (hn : NmAt CF H x n) (hm : NmAt CF H y m) (q : ∀ H', Same H H' → Q (ordV n m) H') : spOrder CF ([x, y] ++ []) H Q E := ⟨x, y, n, m, rfl, hn, hm, q⟩
theorem abs70 {s : Int} (h : bits s ≤ 70) : s.natAbs < 2 ^ 70 := bits_le.1 h
theorem sc_whole_plan : FnScope ["start", "limit", "step", "last", "top", "bottom"] ["start", "limit", "step"] (defScope s_whole_plan) := ⟨rfl, rfl, rfl, by decide +kernel, rfl, by decide +kernel, by decide +kernel⟩
theorem ok_whole_plan (T : AllP K mg CF CP CE) (k_Thrown : KnTh P w K mg base CE) (k_is_number : Kn P w K mg base CX0 2 "is_number" ["thing"] (spNumber K CF)) (k_order_of : Kn P w K mg base CX0 3 "order_of" ["one", "other"] (spOrder CF)) (k_sign_of : Kn P w K mg base CX0 1 "sign_of" ["is_negative"] spSign)
    (k_Float_is_finite : KnM P w K mg base CX0 1 CF "is_finite" ["self"] (spFinite CF)) (k_Float_ratio : KnM P w K mg base CX0 1 CF "ratio" ["self"] (spRatio CF)) (k_ForPlan_init : KnC P w K mg base CX0 1 "ForPlan" CP ["self", "value", "step", "left", "limit"] (spPInit CP)) :
    Kn P w K mg base (L2.CX P w) 4 "whole_plan" ["start", "limit", "step"] (spWhole K CF CP CE) := by
  refine T.x_whole_plan.kn fun f fd F => ?_
  refine F.okX sc_whole_plan (fun vs H Q E h => ?_) (fun cdv A outer s H vs Q E hr h => ?_)
  · obtain ⟨a, s, y, ny, rfl, _⟩ := h
    rfl
  · obtain ⟨a, st, y, ny, rfl, ba, bs, hy, q0, q1, q2⟩ := h
    refine ⟨_, (pss_cons (ps_if (pt_cmpR op_eq (pv 2) pe_int (nomark _)) (pss_one (ps_thr rfl k_Thrown hr (takes_of rfl rfl rfl rfl) (pa_cons pe_str pa_nil))) pss_nil)
      (pss_cons (ps_if (pt_not (pt_val (pk k_is_number hr (pa_cons (pv 1) pa_nil)))) (pss_one (ps_thr rfl k_Thrown hr (takes_of rfl rfl rfl rfl) (pa_cons pe_str pa_nil))) pss_nil)
      (pss_cons (ps_if (PW.pt (pw_or (pt_cmpR op_isN (pk k_order_of hr (pa_cons (pv 0) (pa_cons (pv 1) pa_nil))) pe_non (nomark _)) (pw_or1 (pt_cmpR op_eq (pk k_order_of hr (pa_cons (pv 0) (pa_cons (pv 1) pa_nil))) (pk k_sign_of hr (pa_cons (pe_cmpR op_lt (pv 2) pe_int (nomark _)) pa_nil)) (nomark _))))) (pss_one (ps_ret pe_non)) pss_nil)
      (pss_cons (ps_set (i := 3) sc_whole_plan.nd rfl (Or.inl rfl) (pv 1))
      (C8.pss_cut (ps_if (pt_val (pe_callB call_isi (by rfl) T.b_isinstance boot_isinstance (pa_cons (pv 1) (pa_cons (pg "Float" T.g_Float (rref _)) pa_nil)))) (pss_cons (ps_set (i := 3) sc_whole_plan.nd rfl (Or.inl rfl) (pe_ifExp (pt_cmpR op_gt (pv 2) pe_int (nomark _)) (pgE "MOST" T.c_MOST) (pgE "LEAST" T.c_LEAST)))
      (pss_one (ps_if (pt_val (pkM0 k_Float_is_finite T.l_Float hr (pv 1) rfl)) (pss_cons (ps_asg (pkM0 k_Float_ratio T.l_Float hr (pv 1) rfl) (pg_tup (by rfl) (pgs_cons (pg_name (i := 4) sc_whole_plan.nd rfl (Or.inl rfl)) (pgs_cons (pg_name (i := 5) sc_whole_plan.nd rfl (Or.inl rfl)) pgs_nil))))
      (pss_one (ps_set (i := 3) sc_whole_plan.nd rfl (Or.inl rfl) (pe_ifExp (pt_cmpR op_gt (pv 2) pe_int (nomark _)) (pe_op op_fdivW (pv 4) (pv 5)) (pe_op op_sub pe_int (pe_op op_fdivW (pe_op op_sub pe_int (pv 4)) (pv 5))))))) pss_nil))) pss_nil)
      (pss_cons (ps_set (i := 3) sc_whole_plan.nd rfl (Or.inl rfl) (pe_callB (call_min2 rfl) (by rfl) T.b_min boot_min (pa_cons (pe_callB (call_max2 rfl) (by rfl) T.b_max boot_max (pa_cons (pv 3) (pa_cons (pgE "LEAST" T.c_LEAST) pa_nil))) (pa_cons (pgE "MOST" T.c_MOST) pa_nil))))
      (pss_one (ps_ret (pkC k_ForPlan_init hr (pa_cons (pv 0) (pa_cons (pv 2) (pa_cons (pe_op op_fdivZ (pe_op op_sub (pv 3) (pv 0)) (pv 2)) (pa_cons pe_non pa_nil))))))))))))), ?_⟩
    obtain ⟨sy, e1, _⟩ := hy.says T
    repeat walk_at "rd"
    refine iD (fun z => ?_) (fun z => ?_)
    · refine w_thr ?_
      repeat walk_at "rd"
      exact w_thrI fun d H' s1 _ e => q0 z d H' s1 e
    repeat walk_at "rd"
    refine u_number sy ?_
    rw [e1]
    repeat walk_at "rd"
    cases ny with
    | none =>
      refine iT ?_
      refine w_thr ?_
      repeat walk_at "rd"
      exact w_thrI fun d H' s1 _ e => q1 z rfl d H' s1 e
    | some l =>
      have hl : NmAt CF H y l := by cases hy; assumption
      obtain ⟨r0, r1⟩ := q2 l z rfl
      refine iF ?_
      repeat walk_at "rd"
      refine u_order (n := .int a) ⟨rfl, ba⟩ hl fun H1 s1 => ?_
      repeat walk_at "rd"
      unfold leftOf at r0 r1
      rcases ordV_cases (.int a) l with eo | ⟨g, eo⟩
      · rw [eo] at r0 ⊢
        refine iT ?_
        repeat walk_at "rd"
        exact r0 rfl H1 s1
      · rw [eo] at r0 r1 ⊢
        simp only at r0 r1
        refine iF ?_
        repeat walk_at "rd"
        refine u_order (n := .int a) ⟨rfl, ba⟩ (hl.same s1) fun H2 s2 => ?_
        rw [eo]
        repeat walk_at "rd"
        refine ⟨_, rfl, ?_⟩
        have es : (if decide (st < 0) = true then (-1 : Int) else 1) = if st < 0 then -1 else 1 := by simp only [decide_eq_true_eq]
        rw [es]
        repeat walk_at "rd"
        have s2 := s1.trans s2
        refine iD (fun c => ?_) (fun c => ?_)
        · rw [if_pos c] at r0
          repeat walk_at "rd"
          exact r0 rfl H2 s2
        · rw [if_neg c] at r1
          have r1 := r1 _ rfl
          have hl := hl.same s2
          repeat walk_at "rd"
          refine w_cut (Mid := fun σ' H' => ∃ u v, σ' = [some (.int a), some y, some (.int st), some (.int (lastOf l st)), u, v] ∧ Same H H') ?_ ?_
          · obtain ⟨t, ty, i1, i2, i3, i4⟩ := (Kd8.num hl).says (CP := CP) (CE := CE) T |>.1
            repeat walk_at "rd"
            refine w_isi (.own CF) ty i4 ?_
            repeat walk_at "rd"
            cases l with
            | int i =>
              obtain ⟨rfl, _⟩ := hl
              refine iF ?_
              repeat walk_at "rd"
              exact ⟨_, _, rfl, s2⟩
            | fl f =>
              obtain ⟨b, rfl, hb, okb⟩ := hl
              obtain ⟨dx, h1⟩ := id hb
              refine iT ?_
              repeat walk_at "rd"
              refine iD (fun c => ?_) (fun c => ?_)
              · change 0 < st at c
                repeat walk_at "rd"
                refine w_methI h1 (lk_fin _ _ _) ?_
                repeat walk_at "rd"
                refine ⟨b, f, rfl, hb, ?_⟩
                repeat walk_at "rd"
                cases f with
                | fin r t p =>
                  refine iT ?_
                  repeat walk_at "rd"
                  refine w_methI h1 (lk_rat _ _ _) ?_
                  repeat walk_at "rd"
                  refine ⟨b, r, t, p, rfl, hb, okb, fun q1 H3 s3 n3 e3 => ?_⟩
                  refine w_gtup e3 rfl ?_
                  repeat walk_at "rd"
                  refine iD (fun c2 => ?_) (fun c2 => ?_)
                  · repeat walk_at "rd"
                    refine w_I (cdivw (ratB_pos p) (by have := ratB_b okb; omega)) ?_
                    repeat walk_at "rd"
                    exact ⟨some (.int (ratT r t p)), some (.int (ratB p)), by rw [show lastOf (.fl (.fin r t p)) st = _ from if_pos c]; rfl, s2.trans s3⟩
                  · exact absurd c c2
                | inf r =>
                  refine iF ?_
                  repeat walk_at "rd"
                  exact ⟨none, none, by rw [show lastOf (.fl (.inf r)) st = _ from if_pos c]; rfl, s2⟩
                | nan =>
                  refine iF ?_
                  repeat walk_at "rd"
                  exact ⟨none, none, by rw [show lastOf (.fl (.nan)) st = _ from if_pos c]; rfl, s2⟩
              · change ¬ 0 < st at c
                repeat walk_at "rd"
                refine w_methI h1 (lk_fin _ _ _) ?_
                repeat walk_at "rd"
                refine ⟨b, f, rfl, hb, ?_⟩
                repeat walk_at "rd"
                cases f with
                | fin r t p =>
                  refine iT ?_
                  repeat walk_at "rd"
                  refine w_methI h1 (lk_rat _ _ _) ?_
                  repeat walk_at "rd"
                  refine ⟨b, r, t, p, rfl, hb, okb, fun q1 H3 s3 n3 e3 => ?_⟩
                  refine w_gtup e3 rfl ?_
                  repeat walk_at "rd"
                  refine iD (fun c2 => ?_) (fun c2 => ?_)
                  · exact absurd c2 c
                  · repeat walk_at "rd"
                    refine w_I (cdivw (ratB_pos p) (by have := ratB_b okb; omega)) ?_
                    repeat walk_at "rd"
                    exact ⟨some (.int (ratT r t p)), some (.int (ratB p)), by rw [show lastOf (.fl (.fin r t p)) st = _ from if_neg c]; rfl, s2.trans s3⟩
                | inf r =>
                  refine iF ?_
                  repeat walk_at "rd"
                  exact ⟨none, none, by rw [show lastOf (.fl (.inf r)) st = _ from if_neg c]; rfl, s2⟩
                | nan =>
                  refine iF ?_
                  repeat walk_at "rd"
                  exact ⟨none, none, by rw [show lastOf (.fl (.nan)) st = _ from if_neg c]; rfl, s2⟩
          · rintro σ' H3 ⟨u, v, rfl, s3⟩
            repeat walk_at "rd"
            refine w_I (cdivz z (abs70 bs)) ?_
            repeat walk_at "rd"
            exact u_plan fun p H4 s4 n4 h4 => r1 p H4 (s3.trans s4) (s3.free n4) h4
end
end Nu

set_option Elab.async false
set_option linter.all false
set_option maxRecDepth 100000
set_option autoImplicit false
set_option maxHeartbeats 4000000
namespace Nu
open PySem PySem.Spec PyProof.Rows L2 Rd
local macro_rules | `(tactic| walk_at "hp") => `(tactic| first | assumption | (refine same_get ?sm ?_; (case sm => assumption); walk_at "hp"))
local macro_rules | `(tactic| walk_at "rd") => `(tactic| first
  | with_reducible refine w_nx ?_
  | with_reducible refine w_rt ?_
  | with_reducible refine w_bk ?_
  | with_reducible refine w_ct ?_
  | with_reducible refine w_seq ?_
  | with_reducible refine w_next ?_
  | with_reducible refine w_ret ?_
  | with_reducible refine w_ifS ?_
  | with_reducible refine w_asg ?_
  | with_reducible refine w_name ?_
  | with_reducible refine w_par ?_
  | with_reducible refine w_parI ?_
  | with_reducible refine w_ii ?_
  | with_reducible refine w_i1 ?_
  | with_reducible refine w_drop ?_
  | with_reducible refine w_sFld ?_
  | ((with_reducible refine' w_var ?rdh ?_); (case rdh => exact rfl))
  | with_reducible refine w_c ?_
  | with_reducible refine w_op ?_
  | with_reducible refine w_un ?_
  | with_reducible refine w_I0 ?_
  | with_reducible refine w_U ?_
  | with_reducible refine w_bits ?_
  | with_reducible refine w_bitsI ?_
  | with_reducible refine w_tup ?_
  | with_reducible refine w_lst ?_
  | with_reducible refine w_nil ?_
  | with_reducible refine w_cons ?_
  | with_reducible refine w_fld ?_
  | with_reducible refine w_call ?_
  | with_reducible refine w_make ?_
  | with_reducible refine w_gsub ?_
  | with_reducible refine w_int1 ?_
  | with_reducible refine w_intB ?_
  | with_reducible refine w_for ?_
  | with_reducible refine w_rng1 ?_
  | with_reducible refine w_iList ?_
  | with_reducible refine w_iTup ?_
  | with_reducible refine w_makeD ?_
  | with_reducible refine w_nn ?_
  | with_reducible refine w_subB ?_
  | with_reducible refine w_meth ?_
  | with_reducible refine w_cb ?_
  | with_reducible refine w_test ?_
  | with_reducible refine w_B ?_
  | with_reducible refine w_bl ?_
  | with_reducible refine w_andV ?_
  | with_reducible refine w_orV ?_
  | with_reducible refine w_notV ?_
  | with_reducible refine w_and ?_
  | with_reducible refine w_or ?_
  | with_reducible refine w_not ?_
  | with_reducible refine w_if ?_
  | with_reducible refine w_gnil ?_
  | with_reducible refine w_gcons ?_
  | with_reducible refine iT ?_
  | with_reducible refine iF ?_
  | with_reducible refine w_eqI ?_
  | with_reducible refine w_neI ?_
  | with_reducible refine w_eqS ?_
  | with_reducible refine w_eqIS ?_
  | with_reducible refine w_eqSI ?_)

inductive Pl where
  | err (m : Str)
  | no
  | plI (a s lf : Int)
  | plF (f g l : Fl)
def m_must (w : Str) : Str := ("'for' " : Str) ++ w ++ (" must be a number" : Str)
def toF : Nm → Fl
  | .int i => nearM (if i < 0 then -1 else 1) (if i < 0 then -i else i) 1
  | .fl f => f
theorem toF_ok {n : Nm} {CF : Addr} {H : Hp} {x : V} (h : NmAt CF H x n) : (toF n).ok := by
  cases n with
  | int i => exact nearM_ok (sgn_pm i) (abs_nn i) (by decide)
  | fl f =>
    obtain ⟨_, _, _, ok⟩ := h
    exact ok
def planG (f g l : Fl) : Pl := if g.t = .int 0 then .err m_zero else if (isNan f || (isNan l || isNan g)) = true then .no else if within (.fl f) (.fl g) (.fl l) = true then .plF f g l else .no
def planF (nx ny nz : Option Nm) : Pl := match ny with
  | none => .err (m_must "limit")
  | some l => match nz with
    | none => .err (m_must "step")
    | some s => match nx with
      | none => .err (m_must "initial value")
      | some a => planG (toF a) (toF s) (toF l)
def planI (a s : Int) (ny : Option Nm) : Pl := if s = 0 then .err m_zero else match ny with
  | none => .err m_limit
  | some l => match leftOf a l s with
    | none => .no
    | some lf => .plI a s lf
def planOf (nx ny nz : Option Nm) : Pl := match nx, nz with
  | some (.int a), some (.int s) => planI a s ny
  | _, _ => planF nx ny nz
theorem planOf_other {nx ny nz : Option Nm} (h : (isIn nx && isIn nz) = false) : planOf nx ny nz = planF nx ny nz := by
  match nx, nz, h with
  | none, _, _ => rfl
  | some (.fl _), none, _ => rfl
  | some (.fl _), some _, _ => rfl
  | some (.int _), none, _ => rfl
  | some (.int _), some (.fl _), _ => rfl
  | some (.int _), some (.int _), h => exact absurd h (by simp [isIn])
def PlanK (CF CP CE : Addr) (r : Pl) (H : Hp) (Q : VK) (E : XK) : Prop := match r with
  | .err m => ErrK CE m H E
  | .no => ∀ H', Same H H' → Q .non H'
  | .plI a s lf => ∀ p H', Same H H' → H p = none → PlanAt CP H' p (.int a) (.int s) (.int lf) .non → Q (.ref p) H'
  | .plF f g l => ∀ p x y z H', Same H H' → H p = none → PlanAt CP H' p (.ref x) (.ref y) .non (.ref z) → FlAt CF H' x f → FlAt CF H' y g → FlAt CF H' z l → Q (.ref p) H'
theorem ErrK.same {CE : Addr} {m : Str} {H H1 : Hp} {E : XK} (h : ErrK CE m H E) (s : Same H H1) : ErrK CE m H1 E := fun d H' s1 e => h d H' (s.trans s1) e
theorem PlanK.same {CF CP CE : Addr} {r : Pl} {H H1 : Hp} {Q : VK} {E : XK} (h : PlanK CF CP CE r H Q E) (s : Same H H1) : PlanK CF CP CE r H1 Q E := by
  cases r with
  | err m => exact fun d H' s1 e => h d H' (s.trans s1) e
  | no => exact fun H' s1 => h H' (s.trans s1)
  | plI a b lf => exact fun p H' s1 n e => h p H' (s.trans s1) (s.free n) e
  | plF f g l => exact fun p x y z H' s1 n e => h p x y z H' (s.trans s1) (s.free n) e
section
variable {P : Program} {w : World} {K : PySem.W.Frag} {mg : Str → Option Value} {base : Heap} {CF CP CE : Addr}
def spFor (K : PySem.W.Frag) (CF CP CE : Addr) : Sp := fun vs H Q E => ∃ (x y z : V) (nx ny nz : Option Nm), vs = [x, y, z] ∧ Kd8 K CF H x nx ∧ Kd8 K CF H y ny ∧ Kd8 K CF H z nz ∧ PlanK CF CP CE (planOf nx ny nz) H Q E
theorem u_plain {x : V} {n : Option Nm} {H : Hp} {Q : VK} {E : XK} (T : AllP K mg CF CP CE) (h : Kd8 K CF H x n) (q : Q (.bl (isIn n)) H) : spPlain K CF ([x] ++ []) H Q E := ⟨x, isIn n, isBl x, isSt x, isFl n, rfl, (h.says T).1, by rw [(h.says T).2.2]; exact q⟩
theorem u_num {x : V} {n : Option Nm} {H : Hp} {Q : VK} {E : XK} (T : AllP K mg CF CP CE) (h : Kd8 K CF H x n) (q : Q (.bl n.isSome) H) : spNumber K CF ([x] ++ []) H Q E := u_number (h.says T).1 (by rw [(h.says T).2.1]; exact q)
theorem u_toF {x : V} {n : Nm} {H : Hp} {Q : VK} {E : XK} (h : NmAt CF H x n) (q : ∀ a H', Same H H' → FlAt CF H' a (toF n) → Q (.ref a) H') : spToF K CF ([x] ++ []) H Q E := by
  cases n with
  | int i =>
    obtain ⟨rfl, hb⟩ := h
    exact .inr ⟨i, rfl, by omega, fun a H' s _ e => q a H' s e⟩
  | fl f =>
    obtain ⟨a, rfl, ha, _⟩ := h
    exact .inl ⟨a, f, rfl, ha, q a H (Same.refl H) ha⟩
theorem Fl.scal (f : Fl) : scal f.t (.int 0) = true := by cases f <;> rfl
theorem w_par3 {i j l : Nat} {ta : TA} {D : Ends} {σ : L2.St} {H : Hp} (h : ta σ H fun vs H1 => ∃ v1 v2 v3, vs = [v1, v2, v3] ∧ D.nx (((σ.set i (some v1)).set j (some v2)).set l (some v3)) H1) : tPar3 i j l ta D σ H := h
theorem sc_for_plan : FnScope ["start", "limit", "step", "word", "number"] ["start", "limit", "step"] (defScope s_for_plan) := ⟨rfl, rfl, rfl, by decide +kernel, rfl, by decide +kernel, by decide +kernel⟩
theorem ok_for_plan (T : AllP K mg CF CP CE) (k_Thrown : KnTh P w K mg base CE) (k_is_plain : Kn P w K mg base CX0 1 "is_plain" ["number"] (spPlain K CF)) (k_is_number : Kn P w K mg base CX0 2 "is_number" ["thing"] (spNumber K CF)) (k_to_float : Kn P w K mg base CX0 6 "to_float" ["number"] (spToF K CF))
    (k_whole_plan : Kn P w K mg base (L2.CX P w) 4 "whole_plan" ["start", "limit", "step"] (spWhole K CF CP CE)) (k_is_within : Kn P w K mg base CX0 5 "is_within" ["number", "step", "limit"] (spWithin CF)) (k_ForPlan_init : KnC P w K mg base CX0 1 "ForPlan" CP ["self", "value", "step", "left", "limit"] (spPInit CP)) :
    Kn P w K mg base (L2.CX P w) 7 "for_plan" ["start", "limit", "step"] (spFor K CF CP CE) := by
  refine T.x_for_plan.kn fun f fd F => ?_
  refine F.okX sc_for_plan (fun vs H Q E h => ?_) (fun cdv A outer s H vs Q E hr h => ?_)
  · obtain ⟨x, y, z, nx, ny, nz, rfl, _⟩ := h
    rfl
  · obtain ⟨x, y, z, nx, ny, nz, rfl, hx, hy, hz, q⟩ := h
    refine ⟨_, (C8.pss_cut (ps_if (PW.pt (pw_and (pt_val (pk k_is_plain hr (pa_cons (pv 0) pa_nil))) (pw_and1 (pt_val (pk k_is_plain hr (pa_cons (pv 2) pa_nil)))))) (pss_one (ps_ret (pkX k_whole_plan hr (takes_of rfl rfl rfl rfl) (pa_cons (pv 0) (pa_cons (pv 1) (pa_cons (pv 2) pa_nil)))))) pss_nil)
      (C8.pss_cut (ps_for (passes_of rfl) rfl (pi_tup (pe_tup (pa_cons (pe_tup (pa_cons pe_str (pa_cons (pv 1) pa_nil))) (pa_cons (pe_tup (pa_cons pe_str (pa_cons (pv 2) pa_nil))) (pa_cons (pe_tup (pa_cons pe_str (pa_cons (pv 0) pa_nil))) pa_nil))))) (pg_tup (by rfl) (pgs_cons (pg_name (i := 3) sc_for_plan.nd rfl (Or.inl rfl)) (pgs_cons (pg_name (i := 4) sc_for_plan.nd rfl (Or.inl rfl)) pgs_nil)))
      (pss_one (ps_if (pt_not (pt_val (pk k_is_number hr (pa_cons (pv 4) pa_nil)))) (pss_one (ps_thr rfl k_Thrown hr (takes_of rfl rfl rfl rfl) (pa_cons (pe_op op_add_str (pe_op op_add_str pe_str (pv 3)) pe_str) pa_nil))) pss_nil)))
      (pss_cons (ps_par3 (by rfl) sc_for_plan.nd (i := 0) (j := 1) (l := 2) rfl rfl rfl (by decide) (by decide) (by decide) rfl rfl rfl (pa_cons (pk k_to_float hr (pa_cons (pv 0) pa_nil)) (pa_cons (pk k_to_float hr (pa_cons (pv 1) pa_nil)) (pa_cons (pk k_to_float hr (pa_cons (pv 2) pa_nil)) pa_nil))) (by rfl))
      (pss_cons (ps_if (pt_cmpR op_eq (pe_fld (pv 2) rfl) pe_int (nomark _)) (pss_one (ps_thr rfl k_Thrown hr (takes_of rfl rfl rfl rfl) (pa_cons pe_str pa_nil))) pss_nil)
      (pss_cons (ps_if (PW.pt (pw_or (pt_cmpR op_in_seq pe_str (pe_tup (pa_cons (pe_fld (pv 0) rfl) (pa_cons (pe_fld (pv 1) rfl) (pa_cons (pe_fld (pv 2) rfl) pa_nil)))) rfl) (pw_or1 (pt_not (pt_val (pk k_is_within hr (pa_cons (pv 0) (pa_cons (pv 2) (pa_cons (pv 1) pa_nil))))))))) (pss_one (ps_ret pe_non)) pss_nil)
      (pss_one (ps_ret (pkC k_ForPlan_init hr (pa_cons (pv 0) (pa_cons (pv 2) (pa_cons pe_non (pa_cons (pv 1) pa_nil)))))))))))), ?_⟩
    have rest : (isIn nx && isIn nz) = false → PlanK CF CP CE (planF nx ny nz) H Q E := fun h => by
      rw [← planOf_other h]
      exact q
    have start : (isIn nx && isIn nz) = true → ∃ a b, nx = some (.int a) ∧ nz = some (.int b) := by
      intro h
      match nx, nz, h with
      | some (.int a), some (.int b), _ => exact ⟨a, b, rfl, rfl⟩
      | none, _, h => exact absurd h (by simp [isIn])
      | some (.fl _), none, h => exact absurd h (by simp [isIn])
      | some (.fl _), some _, h => exact absurd h (by simp [isIn])
      | some (.int _), none, h => exact absurd h (by simp [isIn])
      | some (.int _), some (.fl _), h => exact absurd h (by simp [isIn])
    refine w_cut (Mid := fun σ' H' => (isIn nx && isIn nz) = false ∧ σ' = [some x, some y, some z, none, none] ∧ H' = H) ?_ ?_
    · repeat walk_at "rd"
      refine u_plain T hx ?_
      repeat walk_at "rd"
      refine iB (fun c1 => ?_) (fun c1 => ?_)
      · repeat walk_at "rd"
        refine u_plain T hz ?_
        repeat walk_at "rd"
        refine iB (fun c2 => ?_) (fun c2 => ?_)
        · repeat walk_at "rd"
          obtain ⟨a, b, rfl, rfl⟩ := start (by rw [c1, c2]; rfl)
          have q : PlanK CF CP CE (planI a b ny) H Q E := q
          obtain ⟨rfl, ba⟩ : x = .int a ∧ bits a ≤ 70 := by
            cases hx with
            | num h => exact h
          obtain ⟨rfl, bb⟩ : z = .int b ∧ bits b ≤ 70 := by
            cases hz with
            | num h => exact h
          refine w_callS ?_
          repeat walk_at "rd"
          unfold planI at q
          refine ⟨a, b, y, ny, rfl, ba, bb, hy, fun e => ?_, fun e1 e2 => ?_, fun l e1 e2 => ⟨fun e3 => ?_, fun lf e3 => ?_⟩⟩
          · rw [if_pos e] at q
            exact q
          · rw [if_neg e1, e2] at q
            exact q
          · rw [if_neg e1, e2] at q
            simp only [e3] at q
            exact q
          · rw [if_neg e1, e2] at q
            simp only [e3] at q
            exact q
        · repeat walk_at "rd"
          exact ⟨by rw [c2, Bool.and_false], rfl, rfl⟩
      · repeat walk_at "rd"
        exact ⟨by rw [c1, Bool.false_and], rfl, rfl⟩
    rintro σ' H0 ⟨hno, rfl, rfl⟩
    refine w_cut (Mid := fun σ' H' => ∃ a l s u v, nx = some a ∧ ny = some l ∧ nz = some s ∧ σ' = [some x, some y, some z, u, v] ∧ Same H0 H') ?_ ?_
    · repeat walk_at "rd"
      refine w_tup2 fun t1 H1 s1 n1 h1 => ?_
      repeat walk_at "rd"
      refine w_tup2 fun t2 H2 s2 n2 h2 => ?_
      repeat walk_at "rd"
      refine w_tup2 fun t3 H3 s3 n3 h3 => ?_
      repeat walk_at "rd"
      refine w_tup3 fun t4 H4 s4 n4 h4 => ?_
      have h1 := s4 _ _ (s3 _ _ (s2 _ _ h1))
      have h2 := s4 _ _ (s3 _ _ h2)
      have h3 := s4 _ _ h3
      have S0 := s1.trans (s2.trans (s3.trans s4))
      refine w_iTupI h4 ?_
      refine for_tup (xs := [.ref t1, .ref t2, .ref t3]) (fun i σ' H' => ∃ u v, σ' = [some x, some y, some z, u, v] ∧ Same H4 H' ∧ (0 < i → ny.isSome = true) ∧ (1 < i → nz.isSome = true) ∧ (2 < i → nx.isSome = true)) ⟨none, none, rfl, Same.refl _, fun h => absurd h (by decide), fun h => absurd h (by decide), fun h => absurd h (by decide)⟩ (fun i σ H' _ ⟨_, _, _, S, _⟩ => SqT.of (S _ _ h4)) ?_ ?_
      rintro i t σ' H' hi ⟨u, v, rfl, S, c1, c2, c3⟩
      have hi3 : i < 3 := (List.getElem?_eq_some_iff.mp hi).1
      obtain rfl | rfl | rfl : i = 0 ∨ i = 1 ∨ i = 2 := by omega
      · -- turn 0
        cases hi
        refine w_gtup (S _ _ h1) rfl ?_
        repeat walk_at "rd"
        refine u_num T (hy.same (S0.trans S)) ?_
        repeat walk_at "rd"
        cases eny : ny with
        | none =>
          refine iT ?_
          refine w_thr ?_
          repeat walk_at "rd"
          refine ⟨_, _, rfl, rfl, by decide +kernel, ?_⟩
          refine ⟨_, _, rfl, rfl, by decide +kernel, ?_⟩
          repeat walk_at "rd"
          refine w_thrI fun d H' s1 _ e => ?_
          have r := rest hno
          rw [eny] at r
          skip
          exact ErrK.same r (S0.trans S) d H' s1 e
        | some l =>
          refine iF ?_
          repeat walk_at "rd"
          exact ⟨_, _, rfl, S, fun _ => rfl, fun h => absurd h (by decide), fun h => absurd h (by decide)⟩
      · -- turn 1
        cases hi
        refine w_gtup (S _ _ h2) rfl ?_
        repeat walk_at "rd"
        refine u_num T (hz.same (S0.trans S)) ?_
        repeat walk_at "rd"
        cases enz : nz with
        | none =>
          refine iT ?_
          refine w_thr ?_
          repeat walk_at "rd"
          refine ⟨_, _, rfl, rfl, by decide +kernel, ?_⟩
          refine ⟨_, _, rfl, rfl, by decide +kernel, ?_⟩
          repeat walk_at "rd"
          refine w_thrI fun d H' s1 _ e => ?_
          have r := rest hno
          rw [enz] at r
          obtain ⟨l, el⟩ := Option.isSome_iff_exists.1 (c1 (by decide))
          rw [el] at r
          exact ErrK.same r (S0.trans S) d H' s1 e
        | some l =>
          refine iF ?_
          repeat walk_at "rd"
          exact ⟨_, _, rfl, S, fun _ => c1 (by decide), fun _ => rfl, fun h => absurd h (by decide)⟩
      · -- turn 2
        cases hi
        refine w_gtup (S _ _ h3) rfl ?_
        repeat walk_at "rd"
        refine u_num T (hx.same (S0.trans S)) ?_
        repeat walk_at "rd"
        cases enx : nx with
        | none =>
          refine iT ?_
          refine w_thr ?_
          repeat walk_at "rd"
          refine ⟨_, _, rfl, rfl, by decide +kernel, ?_⟩
          refine ⟨_, _, rfl, rfl, by decide +kernel, ?_⟩
          repeat walk_at "rd"
          refine w_thrI fun d H' s1 _ e => ?_
          have r := rest hno
          rw [enx] at r
          obtain ⟨l, el⟩ := Option.isSome_iff_exists.1 (c1 (by decide))
          obtain ⟨l2, el2⟩ := Option.isSome_iff_exists.1 (c2 (by decide))
          rw [el, el2] at r
          exact ErrK.same r (S0.trans S) d H' s1 e
        | some l =>
          refine iF ?_
          repeat walk_at "rd"
          exact ⟨_, _, rfl, S, fun _ => c1 (by decide), fun _ => c2 (by decide), fun _ => rfl⟩
      · rintro σ' H' ⟨u, v, rfl, S, c1, c2, c3⟩
        obtain ⟨l, el⟩ := Option.isSome_iff_exists.1 (c1 (by show 0 < 3; decide))
        obtain ⟨s, es⟩ := Option.isSome_iff_exists.1 (c2 (by show 1 < 3; decide))
        obtain ⟨a, ea⟩ := Option.isSome_iff_exists.1 (c3 (by show 2 < 3; decide))
        exact ⟨a, l, s, u, v, ea, el, es, rfl, S0.trans S⟩
    rintro σ' H1 ⟨a, l, s, u, v, rfl, rfl, rfl, rfl, S1⟩
    have r : PlanK CF CP CE (planG (toF a) (toF s) (toF l)) H0 Q E := rest hno
    have hx : NmAt CF H0 x a := by cases hx; assumption
    have hy : NmAt CF H0 y l := by cases hy; assumption
    have hz : NmAt CF H0 z s := by cases hz; assumption
    have okf := toF_ok hx
    have okl := toF_ok hy
    have okg := toF_ok hz
    repeat walk_at "rd"
    refine w_par3 ?_
    repeat walk_at "rd"
    refine u_toF (hx.same S1) fun x1 H2 s2 f2 => ?_
    repeat walk_at "rd"
    refine u_toF (hy.same (S1.trans s2)) fun y1 H3 s3 l3 => ?_
    repeat walk_at "rd"
    refine u_toF (hz.same (S1.trans (s2.trans s3))) fun z1 H4 s4 g4 => ?_
    have S4 := S1.trans (s2.trans (s3.trans s4))
    have f4 := f2.same (s3.trans s4)
    have l4 := l3.same s4
    have r := PlanK.same r S4
    generalize toF a = f at *
    generalize toF l = lm at *
    generalize toF s = g at *
    obtain ⟨d1, h1⟩ := id f4
    obtain ⟨d2, h2⟩ := id l4
    obtain ⟨d3, h3⟩ := id g4
    repeat walk_at "rd"
    refine ⟨_, _, _, rfl, ?_⟩
    repeat walk_at "rd"
    refine w_fldI h3 T.l_Float T.n_top (flds_t _ _ _) ?_
    repeat walk_at "rd"
    refine w_eq g.scal ?_
    unfold planG at r
    repeat walk_at "rd"
    refine iD (fun c => ?_) (fun c => ?_)
    · rw [if_pos c] at r
      refine w_thr ?_
      repeat walk_at "rd"
      exact w_thrI fun d H' s1 _ e => r d H' s1 e
    · rw [if_neg c] at r
      repeat walk_at "rd"
      refine w_fldI h1 T.l_Float T.n_top (flds_t _ _ _) ?_
      repeat walk_at "rd"
      refine w_fldI h2 T.l_Float T.n_top (flds_t _ _ _) ?_
      repeat walk_at "rd"
      refine w_fldI h3 T.l_Float T.n_top (flds_t _ _ _) ?_
      repeat walk_at "rd"
      refine w_tup3 fun a1 H5 s5 n5 e5 => ?_
      refine w_in e5 rfl (by simp [Fl.flat]) ?_
      have ein : inV (.str "nan") [f.t, lm.t, g.t] = (isNan f || (isNan lm || isNan g)) := by
        unfold inV
        simp only [List.any_cons, List.any_nil, Bool.or_false, nan_in1]
      rw [ein]
      repeat walk_at "rd"
      refine iB (fun c2 => ?_) (fun c2 => ?_)
      · rw [if_pos c2] at r
        repeat walk_at "rd"
        exact r H5 s5
      · rw [if_neg (by rw [c2]; exact Bool.false_ne_true)] at r
        repeat walk_at "rd"
        refine u_within (n := .fl f) (st := .fl g) (lm := .fl lm) ⟨x1, rfl, f4.same s5, okf⟩ ⟨z1, rfl, g4.same s5, okg⟩ ⟨y1, rfl, l4.same s5, okl⟩ fun H6 s6 => ?_
        repeat walk_at "rd"
        cases ew : within (.fl f) (.fl g) (.fl lm) with
        | true =>
          rw [ew, if_pos rfl] at r
          refine iF ?_
          repeat walk_at "rd"
          exact u_plan fun p H7 s7 n7 h7 => r p x1 z1 y1 H7 (s5.trans (s6.trans s7)) ((s5.trans s6).free n7) h7 (f4.same (s5.trans (s6.trans s7))) (g4.same (s5.trans (s6.trans s7))) (l4.same (s5.trans (s6.trans s7)))
        | false =>
          rw [ew, if_neg Bool.false_ne_true] at r
          refine iT ?_
          repeat walk_at "rd"
          exact r H6 (s5.trans s6)
end
end Nu

set_option Elab.async false
set_option linter.all false
set_option maxRecDepth 100000
set_option autoImplicit false
set_option maxHeartbeats 4000000
namespace Nu
open PySem PySem.Spec PyProof.Rows L2 Rd
local macro_rules | `(tactic| walk_at "hp") => `(tactic| first | assumption | (refine same_get ?sm ?_; (case sm => assumption); walk_at "hp"))
local macro_rules | `(tactic| walk_at "rd") => `(tactic| first
  | with_reducible refine w_nx ?_
  | with_reducible refine w_rt ?_
  | with_reducible refine w_bk ?_
  | with_reducible refine w_ct ?_
  | with_reducible refine w_seq ?_
  | with_reducible refine w_next ?_
  | with_reducible refine w_ret ?_
  | with_reducible refine w_ifS ?_
  | with_reducible refine w_asg ?_
  | with_reducible refine w_name ?_
  | with_reducible refine w_par ?_
  | with_reducible refine w_parI ?_
  | with_reducible refine w_ii ?_
  | with_reducible refine w_i1 ?_
  | with_reducible refine w_drop ?_
  | with_reducible refine w_sFld ?_
  | ((with_reducible refine' w_var ?rdh ?_); (case rdh => exact rfl))
  | with_reducible refine w_c ?_
  | with_reducible refine w_op ?_
  | with_reducible refine w_un ?_
  | with_reducible refine w_I0 ?_
  | with_reducible refine w_U ?_
  | with_reducible refine w_bits ?_
  | with_reducible refine w_bitsI ?_
  | with_reducible refine w_tup ?_
  | with_reducible refine w_lst ?_
  | with_reducible refine w_nil ?_
  | with_reducible refine w_cons ?_
  | with_reducible refine w_fld ?_
  | with_reducible refine w_call ?_
  | with_reducible refine w_make ?_
  | with_reducible refine w_gsub ?_
  | with_reducible refine w_int1 ?_
  | with_reducible refine w_intB ?_
  | with_reducible refine w_for ?_
  | with_reducible refine w_rng1 ?_
  | with_reducible refine w_iList ?_
  | with_reducible refine w_iTup ?_
  | with_reducible refine w_makeD ?_
  | with_reducible refine w_nn ?_
  | with_reducible refine w_subB ?_
  | with_reducible refine w_meth ?_
  | with_reducible refine w_cb ?_
  | with_reducible refine w_test ?_
  | with_reducible refine w_B ?_
  | with_reducible refine w_bl ?_
  | with_reducible refine w_andV ?_
  | with_reducible refine w_orV ?_
  | with_reducible refine w_notV ?_
  | with_reducible refine w_and ?_
  | with_reducible refine w_or ?_
  | with_reducible refine w_not ?_
  | with_reducible refine w_if ?_
  | with_reducible refine w_gnil ?_
  | with_reducible refine w_gcons ?_
  | with_reducible refine iT ?_
  | with_reducible refine iF ?_
  | with_reducible refine w_eqI ?_
  | with_reducible refine w_neI ?_
  | with_reducible refine w_eqS ?_
  | with_reducible refine w_eqIS ?_
  | with_reducible refine w_eqSI ?_)

/-! ### the rounds -/
def okI (v s : Int) (l : Nm) : Bool := decide (-9223372036854775808 ≤ v) && (decide (v < 9223372036854775808) && (if 0 < s then cmpV "le" (.int v) l else cmpV "le" l (.int v)))
def dr (s : Int) (l : Nm) : Nat → Int → List Nm
  | 0, _ => []
  | n + 1, v => if okI v s l = true then .int v :: dr s l n (v + s) else []
def condF (f g l : Fl) : Bool := if 0 < g.s then cmpV "le" (.fl f) (.fl l) else cmpV "le" (.fl l) (.fl f)
def frs (g l : Fl) : Nat → Fl → List Nm
  | 0, _ => []
  | n + 1, f => if (isNan f || (isNan l || isNan g)) = true then [] else if condF f g l = true then .fl f :: frs g l n (addM f g) else []
inductive Out where
  | err (m : Str)
  | vals (ns : List Nm)
def dueG (f g l : Fl) : Out := if g.t = .int 0 then .err m_zero else .vals (frs g l 12 f)
def dueF (nx ny nz : Option Nm) : Out := match ny with
  | none => .err (m_must "limit")
  | some l => match nz with
    | none => .err (m_must "step")
    | some s => match nx with
      | none => .err (m_must "initial value")
      | some a => dueG (toF a) (toF s) (toF l)
def dueI (a s : Int) (ny : Option Nm) : Out := if s = 0 then .err m_zero else match ny with
  | none => .err m_limit
  | some l => .vals (dr s l 12 a)
def dueOf (nx ny nz : Option Nm) : Out := match nx, nz with
  | some (.int a), some (.int s) => dueI a s ny
  | _, _ => dueF nx ny nz
theorem dueOf_other {nx ny nz : Option Nm} (h : (isIn nx && isIn nz) = false) : dueOf nx ny nz = dueF nx ny nz := by
  match nx, nz, h with
  | none, _, _ => rfl
  | some (.fl _), none, _ => rfl
  | some (.fl _), some _, _ => rfl
  | some (.int _), none, _ => rfl
  | some (.int _), some (.fl _), _ => rfl
  | some (.int _), some (.int _), h => exact absurd h (by simp [isIn])
def i64 : Nm → Prop
  | .int i => -9223372036854775808 ≤ i ∧ i ≤ 9223372036854775807
  | .fl _ => True
/-! the count of rounds of ints -/
theorem sgn_le {g : Int} : (sgnV g ≤ 0) ↔ g ≤ 0 := by
  unfold sgnV
  split <;> split <;> omega
theorem cmp_le {n m : Nm} {a b c d : Int} (h1 : place n = some (a, b)) (h2 : place m = some (c, d)) : cmpV "le" n m = decide (a * d ≤ c * b) := by
  unfold cmpV ordV
  rw [h1, h2]
  show (if ("le" : Str) = "lt" then decide (sgnV (gap (a, b) (c, d)) < 0) else decide (sgnV (gap (a, b) (c, d)) ≤ 0)) = _
  rw [if_neg (by decide +kernel), decide_eq_decide]
  rw [sgn_le]
  unfold gap
  simp only
  omega
theorem cmp_lt {n m : Nm} {a b c d : Int} (h1 : place n = some (a, b)) (h2 : place m = some (c, d)) : cmpV "lt" n m = decide (a * d < c * b) := by
  unfold cmpV ordV
  rw [h1, h2]
  show (if ("lt" : Str) = "lt" then decide (sgnV (gap (a, b) (c, d)) < 0) else decide (sgnV (gap (a, b) (c, d)) ≤ 0)) = _
  rw [if_pos rfl, decide_eq_decide]
  unfold sgnV gap
  simp only
  split <;> split <;> omega
theorem cmp_no {w : Str} {n m : Nm} (h : place n = none ∨ place m = none) : cmpV w n m = false := by
  unfold cmpV ordV
  rcases h with h | h
  · rw [h]
  · rw [h]
    cases place n <;> rfl
def Nm.ok : Nm → Prop
  | .int i => bits i ≤ 70
  | .fl f => f.ok
theorem NmAt.ok {CF : Addr} {H : Hp} {x : V} : ∀ {n : Nm}, NmAt CF H x n → n.ok
  | .int _, h => h.2
  | .fl _, ⟨_, _, _, o⟩ => o
def dirP (v s : Int) (a b : Int) : Prop := (0 < s → v * b ≤ a) ∧ (¬ 0 < s → a ≤ v * b)
theorem okI_iff {l : Nm} {a b v s : Int} (hp : place l = some (a, b)) : okI v s l = true ↔ -9223372036854775808 ≤ v ∧ v ≤ 9223372036854775807 ∧ dirP v s a b := by
  have h1 : cmpV "le" (.int v) l = decide (v * b ≤ a * 1) := cmp_le rfl hp
  have h2 : cmpV "le" l (.int v) = decide (a * 1 ≤ v * b) := cmp_le hp rfl
  unfold okI dirP
  rw [h1, h2, Int.mul_one, Bool.and_eq_true, Bool.and_eq_true, decide_eq_true_eq, decide_eq_true_eq]
  by_cases c : 0 < s
  · rw [if_pos c, decide_eq_true_eq]
    exact ⟨fun h => ⟨h.1, by omega, fun _ => h.2.2, fun z => absurd c z⟩, fun h => ⟨h.1, by omega, h.2.2.1 c⟩⟩
  · rw [if_neg c, decide_eq_true_eq]
    exact ⟨fun h => ⟨h.1, by omega, fun z => absurd z c, fun _ => h.2.2⟩, fun h => ⟨h.1, by omega, h.2.2.2 c⟩⟩
theorem okI_no {l : Nm} {v s : Int} (hp : place l = none) : okI v s l = false := by
  unfold okI
  rw [cmp_no (.inr hp), cmp_no (.inl hp)]
  simp
theorem big64 : (9223372036854775808 : Int) < 2 ^ 1025 := Int.lt_of_lt_of_le (by decide : (9223372036854775808 : Int) < 2 ^ 64) (pow_mono (a := 64) (b := 1025) (by decide))
theorem dir_last {l : Nm} (hl : l.ok) {a b a0 s : Int} (hp : place l = some (a, b)) (h0 : -9223372036854775808 ≤ a0 ∧ a0 ≤ 9223372036854775807) (d0 : dirP a0 s a b) {v : Int} (hv : -9223372036854775808 ≤ v ∧ v ≤ 9223372036854775807) :
    dirP v s a b ↔ (0 < s → v ≤ lastOf l s) ∧ (¬ 0 < s → lastOf l s ≤ v) := by
  match l, hl, hp with
  | .int i, _, hp =>
    cases hp
    unfold dirP
    rw [Int.mul_one]
    rfl
  | .fl (.fin r t p), ok, hp =>
    cases hp
    have bp := ratB_pos p
    unfold dirP
    by_cases c : 0 < s
    · rw [show lastOf (.fl (.fin r t p)) s = ratT r t p / ratB p from if_pos c]
      exact ⟨fun h => ⟨fun _ => (Int.le_ediv_iff_mul_le bp).2 (h.1 c), fun z => absurd c z⟩, fun h => ⟨fun _ => (Int.le_ediv_iff_mul_le bp).1 (h.1 c), fun z => absurd c z⟩⟩
    · rw [show lastOf (.fl (.fin r t p)) s = 0 - (0 - ratT r t p) / ratB p from if_neg c]
      have e := Int.le_ediv_iff_mul_le (a := -v) (b := 0 - ratT r t p) bp
      rw [Int.neg_mul] at e
      exact ⟨fun h => ⟨fun z => absurd z c, fun _ => by have := e.2 (by have := h.2 c; omega); omega⟩, fun h => ⟨fun z => absurd z c, fun _ => by have := e.1 (by have := h.2 c; omega); omega⟩⟩
  | .fl (.inf r), ok, hp =>
    cases hp
    have bg := big64
    unfold dirP at d0 ⊢
    rw [Int.mul_one] at d0 ⊢
    generalize (2 : Int) ^ 1025 = M at *
    have hr : r = 1 ∨ r = -1 := ok
    by_cases c : 0 < s
    · rw [show lastOf (.fl (.inf r)) s = 9223372036854775807 from if_pos c]
      have := d0.1 c
      refine ⟨fun h => ⟨fun _ => by omega, fun z => absurd c z⟩, fun h => ⟨fun _ => ?_, fun z => absurd c z⟩⟩
      rcases hr with rfl | rfl <;> omega
    · rw [show lastOf (.fl (.inf r)) s = -9223372036854775808 from if_neg c]
      have := d0.2 c
      refine ⟨fun h => ⟨fun z => absurd z c, fun _ => by omega⟩, fun h => ⟨fun z => absurd z c, fun _ => ?_⟩⟩
      rcases hr with rfl | rfl <;> omega
/-- lf further rounds behind v -/
def RQ (s : Int) (l : Nm) (v lf : Int) : Prop := 0 ≤ lf ∧ ∀ k : Int, 0 ≤ k → (k ≤ lf ↔ okI (v + k * s) s l = true)
theorem RQ.next {s v lf : Int} {l : Nm} (h : RQ s l v lf) (z : lf ≠ 0) : RQ s l (v + s) (lf - 1) := by
  refine ⟨by have := h.1; omega, fun k hk => ?_⟩
  have e := h.2 (k + 1) (by omega)
  rw [show v + s + k * s = v + (k + 1) * s by rw [Int.add_mul, Int.one_mul]; omega]
  rw [← e]
  omega
theorem RQ.here {s v lf : Int} {l : Nm} (h : RQ s l v lf) : okI v s l = true := by
  have e := (h.2 0 (Int.le_refl _)).1 h.1
  rw [Int.zero_mul, Int.add_zero] at e
  exact e
theorem RQ.stop {s v : Int} {l : Nm} (h : RQ s l v 0) : okI (v + s) s l = false := by
  have e := h.2 1 (by decide)
  rw [Int.one_mul] at e
  cases c : okI (v + s) s l with
  | false => rfl
  | true => exact absurd (e.2 c) (by decide)
theorem left_none {a s : Int} {l : Nm} (hs : s ≠ 0) (h : leftOf a l s = none) : okI a s l = false := by
  cases hp : place l with
  | none => exact okI_no hp
  | some ab =>
    have eo : ordV (.int a) l = .int (sgnV (gap (a, 1) ab)) := by
      unfold ordV
      rw [hp]
      rfl
    unfold leftOf at h
    rw [eo] at h
    simp only at h
    cases c : okI a s l with
    | false => rfl
    | true =>
      obtain ⟨_, _, d1, d2⟩ := (okI_iff (a := ab.1) (b := ab.2) hp).1 c
      by_cases g : sgnV (gap (a, 1) ab) = if s < 0 then -1 else 1
      · unfold sgnV gap at g
        simp only [Int.mul_one] at g
        by_cases c : 0 < s
        · rw [if_neg (show ¬ s < 0 by omega)] at g
          have := d1 c
          split at g <;> split at g <;> omega
        · rw [if_pos (show s < 0 by omega)] at g
          have := d2 c
          split at g <;> split at g <;> omega
      · rw [if_neg g] at h
        cases h
theorem left_some {a s lf : Int} {l : Nm} (hl : l.ok) (hs : s ≠ 0) (h64 : -9223372036854775808 ≤ a ∧ a ≤ 9223372036854775807) (h : leftOf a l s = some lf) : RQ s l a lf := by
  cases hp : place l with
  | none =>
    have eo : ordV (.int a) l = .non := by
      unfold ordV
      rw [hp]
      rfl
    unfold leftOf at h
    rw [eo] at h
    cases h
  | some ab =>
    have eo : ordV (.int a) l = .int (sgnV (gap (a, 1) ab)) := by
      unfold ordV
      rw [hp]
      rfl
    unfold leftOf at h
    rw [eo] at h
    simp only at h
    by_cases g : sgnV (gap (a, 1) ab) = if s < 0 then -1 else 1
    · rw [if_pos g] at h
      cases h
    · rw [if_neg g] at h
      obtain rfl := Option.some.inj h
      have d0 : dirP a s ab.1 ab.2 := by
        unfold sgnV gap at g
        simp only [Int.mul_one] at g
        refine ⟨fun c => ?_, fun c => ?_⟩
        · rw [if_neg (show ¬ s < 0 by omega)] at g
          split at g <;> split at g <;> omega
        · rw [if_pos (show s < 0 by omega)] at g
          split at g <;> split at g <;> omega
      have k0 := (dir_last hl (a := ab.1) (b := ab.2) hp h64 d0 (v := a) h64).1 d0
      have key : ∀ v, okI v s l = true ↔ -9223372036854775808 ≤ v ∧ v ≤ 9223372036854775807 ∧ (0 < s → v ≤ lastOf l s) ∧ (¬ 0 < s → lastOf l s ≤ v) := by
        intro v
        rw [okI_iff (a := ab.1) (b := ab.2) hp]
        constructor
        · rintro ⟨h1, h2, h3⟩
          exact ⟨h1, h2, (dir_last hl (a := ab.1) (b := ab.2) hp h64 d0 ⟨h1, h2⟩).1 h3⟩
        · rintro ⟨h1, h2, h3⟩
          exact ⟨h1, h2, (dir_last hl (a := ab.1) (b := ab.2) hp h64 d0 ⟨h1, h2⟩).2 h3⟩
      generalize lastOf l s = L at k0 key ⊢
      have hc : clip L = if L < -9223372036854775808 then -9223372036854775808 else if 9223372036854775807 < L then 9223372036854775807 else L := by
        unfold clip
        (repeat' split) <;> omega
      rw [hc]
      clear hc
      by_cases c : 0 < s
      · have a1 := k0.1 c
        have e : ∀ x : Int, x.fdiv s = x / s := fun x => Int.fdiv_eq_ediv_of_nonneg x (by omega)
        rw [e]
        refine ⟨Int.ediv_nonneg (by split <;> (try split) <;> omega) (by omega), fun k hk => ?_⟩
        rw [key, Int.le_ediv_iff_mul_le c]
        have kp := Int.mul_nonneg hk (show 0 ≤ s by omega)
        generalize k * s = x at kp ⊢
        constructor
        · intro h
          refine ⟨by omega, ?_, fun _ => ?_, fun z => absurd c z⟩
          · split at h <;> (try split at h) <;> omega
          · split at h <;> (try split at h) <;> omega
        · rintro ⟨h1, h2, h3, _⟩
          have := h3 c
          split <;> (try split) <;> omega
      · have a1 := k0.2 c
        have sn : 0 < -s := by omega
        have e : ∀ x : Int, x.fdiv s = (-x) / (-s) := fun x => by
          rw [← Int.fdiv_eq_ediv_of_nonneg (-x) (show 0 ≤ -s by omega), Int.neg_fdiv_neg]
        rw [e]
        refine ⟨Int.ediv_nonneg (by split <;> (try split) <;> omega) (by omega), fun k hk => ?_⟩
        rw [key, Int.le_ediv_iff_mul_le sn]
        have kp := Int.mul_nonneg hk (show 0 ≤ -s by omega)
        rw [Int.mul_neg] at kp ⊢
        generalize k * s = x at kp ⊢
        constructor
        · intro h
          refine ⟨?_, by omega, fun z => absurd z c, fun _ => ?_⟩
          · split at h <;> (try split at h) <;> omega
          · split at h <;> (try split at h) <;> omega
        · rintro ⟨h1, h2, _, h3⟩
          have := h3 c
          split <;> (try split) <;> omega
end Nu

set_option Elab.async false
set_option linter.all false
set_option maxRecDepth 100000
set_option autoImplicit false
set_option maxHeartbeats 4000000
namespace Nu
open PySem PySem.Spec PyProof.Rows L2 Rd
local macro_rules | `(tactic| walk_at "hp") => `(tactic| first | assumption | (refine same_get ?sm ?_; (case sm => assumption); walk_at "hp"))
local macro_rules | `(tactic| walk_at "rd") => `(tactic| first
  | with_reducible refine w_nx ?_
  | with_reducible refine w_rt ?_
  | with_reducible refine w_bk ?_
  | with_reducible refine w_ct ?_
  | with_reducible refine w_seq ?_
  | with_reducible refine w_next ?_
  | with_reducible refine w_ret ?_
  | with_reducible refine w_ifS ?_
  | with_reducible refine w_asg ?_
  | with_reducible refine w_name ?_
  | with_reducible refine w_par ?_
  | with_reducible refine w_parI ?_
  | with_reducible refine w_ii ?_
  | with_reducible refine w_i1 ?_
  | with_reducible refine w_drop ?_
  | with_reducible refine w_sFld ?_
  | ((with_reducible refine' w_var ?rdh ?_); (case rdh => exact rfl))
  | with_reducible refine w_c ?_
  | with_reducible refine w_op ?_
  | with_reducible refine w_un ?_
  | with_reducible refine w_I0 ?_
  | with_reducible refine w_U ?_
  | with_reducible refine w_bits ?_
  | with_reducible refine w_bitsI ?_
  | with_reducible refine w_tup ?_
  | with_reducible refine w_lst ?_
  | with_reducible refine w_nil ?_
  | with_reducible refine w_cons ?_
  | with_reducible refine w_fld ?_
  | with_reducible refine w_call ?_
  | with_reducible refine w_make ?_
  | with_reducible refine w_gsub ?_
  | with_reducible refine w_int1 ?_
  | with_reducible refine w_intB ?_
  | with_reducible refine w_for ?_
  | with_reducible refine w_rng1 ?_
  | with_reducible refine w_iList ?_
  | with_reducible refine w_iTup ?_
  | with_reducible refine w_makeD ?_
  | with_reducible refine w_nn ?_
  | with_reducible refine w_subB ?_
  | with_reducible refine w_meth ?_
  | with_reducible refine w_cb ?_
  | with_reducible refine w_test ?_
  | with_reducible refine w_B ?_
  | with_reducible refine w_bl ?_
  | with_reducible refine w_andV ?_
  | with_reducible refine w_orV ?_
  | with_reducible refine w_notV ?_
  | with_reducible refine w_and ?_
  | with_reducible refine w_or ?_
  | with_reducible refine w_not ?_
  | with_reducible refine w_if ?_
  | with_reducible refine w_gnil ?_
  | with_reducible refine w_gcons ?_
  | with_reducible refine iT ?_
  | with_reducible refine iF ?_
  | with_reducible refine w_eqI ?_
  | with_reducible refine w_neI ?_
  | with_reducible refine w_eqS ?_
  | with_reducible refine w_eqIS ?_
  | with_reducible refine w_eqSI ?_)

theorem lt0_of {g : Fl} (hg : g.ok) (hz : g.t ≠ .int 0) (hn : isNan g = false) : cmpV "lt" (.int 0) (.fl g) = decide (0 < g.s) := by
  cases g with
  | nan => cases hn
  | inf r =>
    have bg := big64
    rw [cmp_lt (n := .int 0) (m := .fl (.inf r)) (a := 0) (b := 1) (c := r * 2 ^ 1025) (d := 1) rfl rfl, decide_eq_decide]
    show 0 * 1 < r * 2 ^ 1025 * 1 ↔ 0 < r
    generalize (2 : Int) ^ 1025 = M at *
    rcases (show r = 1 ∨ r = -1 from hg) with rfl | rfl <;> omega
  | fin s t p =>
    obtain ⟨hs, t0, _⟩ := hg
    have t1 : t ≠ 0 := fun z => hz (by rw [z]; rfl)
    rw [cmp_lt (n := .int 0) (m := .fl (.fin s t p)) (a := 0) (b := 1) (c := ratT s t p) (d := ratB p) rfl rfl, decide_eq_decide]
    show 0 * ratB p < ratT s t p * 1 ↔ 0 < s
    rw [Int.zero_mul, Int.mul_one]
    have tp : 0 < (if p < 0 then t else t * 2 ^ p.toNat) := by
      split
      · omega
      · exact Int.mul_pos (by omega) (pow_pos2 _)
    have e : ratT s t p = s * (if p < 0 then t else t * 2 ^ p.toNat) := by
      unfold ratT
      split <;> rfl
    rw [e]
    generalize (if p < 0 then t else t * 2 ^ p.toNat) = X at tp ⊢
    rcases hs with rfl | rfl <;> omega
theorem within_cond {f g l : Fl} (hg : g.ok) (hz : g.t ≠ .int 0) (hn : isNan g = false) : within (.fl f) (.fl g) (.fl l) = condF f g l := by
  unfold within condF
  rw [lt0_of hg hz hn]
  by_cases c : 0 < g.s
  · rw [decide_eq_true c, if_pos rfl, if_pos c]
  · rw [decide_eq_false c, if_neg Bool.false_ne_true, if_neg c]
theorem cond_nan {f g l : Fl} (h : isNan f = true) : condF f g l = false := by
  have e : place (.fl f) = none := by
    cases f with
    | nan => rfl
    | inf s => cases h
    | fin s t p => cases h
  unfold condF
  rw [cmp_no (.inl e), cmp_no (.inr e)]
  split <;> rfl
/-- what the plan says of what is due -/
def PD (r : Pl) (o : Out) : Prop := match r with
  | .err m => o = .err m
  | .no => o = .vals []
  | .plI a s lf => ∃ l, o = .vals (dr s l 12 a) ∧ RQ s l a lf
  | .plF f g l => o = .vals (frs g l 12 f) ∧ f.ok ∧ g.ok ∧ l.ok ∧ g.t ≠ .int 0 ∧ isNan g = false ∧ isNan l = false ∧ isNan f = false ∧ condF f g l = true
theorem plan_due {nx ny nz : Option Nm} (hx : ∀ n, nx = some n → n.ok ∧ i64 n) (hy : ∀ n, ny = some n → n.ok) (hz : ∀ n, nz = some n → n.ok) (tx : ∀ n : Nm, n.ok → (toF n).ok) : PD (planOf nx ny nz) (dueOf nx ny nz) := by
  by_cases c : (isIn nx && isIn nz) = true
  · match nx, nz, c with
    | some (.int a), some (.int s), _ =>
      show PD (planI a s ny) (dueI a s ny)
      unfold planI dueI
      by_cases z : s = 0
      · rw [if_pos z, if_pos z]
        rfl
      · rw [if_neg z, if_neg z]
        cases ny with
        | none => rfl
        | some l =>
          show PD (match leftOf a l s with | none => Pl.no | some lf => Pl.plI a s lf) (Out.vals (dr s l 12 a))
          cases e : leftOf a l s with
          | none =>
            have k := left_none z e
            show Out.vals (dr s l 12 a) = .vals []
            rw [show dr s l 12 a = if okI a s l = true then .int a :: dr s l 11 (a + s) else [] from rfl, k, if_neg Bool.false_ne_true]
          | some lf => exact ⟨l, rfl, left_some (hy l rfl) z (hx _ rfl).2 e⟩
    | none, _, c => exact absurd c (by simp [isIn])
    | some (.fl _), _, c => exact absurd c (by simp [isIn])
    | some (.int _), none, c => exact absurd c (by simp [isIn])
    | some (.int _), some (.fl _), c => exact absurd c (by simp [isIn])
  · have c : (isIn nx && isIn nz) = false := by
      cases h : (isIn nx && isIn nz) with
      | false => rfl
      | true => exact absurd h c
    rw [planOf_other c, dueOf_other c]
    unfold planF dueF
    cases ny with
    | none => rfl
    | some l =>
      cases nz with
      | none => rfl
      | some s =>
        cases nx with
        | none => rfl
        | some a =>
          have okf := tx a (hx a rfl).1
          have okg := tx s (hz s rfl)
          have okl := tx l (hy l rfl)
          show PD (planG (toF a) (toF s) (toF l)) (dueG (toF a) (toF s) (toF l))
          generalize toF a = f at *
          generalize toF s = g at *
          generalize toF l = l at *
          unfold planG dueG
          by_cases z : g.t = .int 0
          · rw [if_pos z, if_pos z]
            rfl
          · rw [if_neg z, if_neg z]
            have e12 : frs g l 12 f = if (isNan f || (isNan l || isNan g)) = true then [] else if condF f g l = true then .fl f :: frs g l 11 (addM f g) else [] := rfl
            by_cases n : (isNan f || (isNan l || isNan g)) = true
            · rw [if_pos n]
              show Out.vals _ = .vals []
              rw [e12, if_pos n]
            · rw [if_neg n]
              rw [Bool.not_eq_true, Bool.or_eq_false_iff, Bool.or_eq_false_iff] at n
              obtain ⟨n1, n2, n3⟩ := n
              rw [within_cond okg z n3]
              cases w : condF f g l with
              | true =>
                rw [if_pos rfl]
                exact ⟨rfl, okf, okg, okl, z, n3, n2, n1, w⟩
              | false =>
                rw [if_neg Bool.false_ne_true]
                show Out.vals _ = .vals []
                rw [e12, n1, n2, n3, w]
                rfl
theorem toF_ok' (n : Nm) (h : n.ok) : (toF n).ok := by
  cases n with
  | int i => exact nearM_ok (sgn_pm i) (abs_nn i) (by decide)
  | fl f => exact h
/-! ### lists of numbers -/
def LN (CF : Addr) (H : Hp) (p : Addr) (ns : List Nm) : Prop := ∃ xs, H p = some (.lst xs) ∧ xs.length = ns.length ∧ ∀ (i : Nat) x n, xs[i]? = some x → ns[i]? = some n → NmAt CF H x n
def OutAt (CF : Addr) (H : Hp) (v : V) (o : Out) : Prop := match o with
  | .err m => v = .str m
  | .vals ns => ∃ p, v = .ref p ∧ LN CF H p ns
theorem LN.same {CF p : Addr} {H H' : Hp} {ns : List Nm} (h : LN CF H p ns) (s : Same H H') : LN CF H' p ns := by
  obtain ⟨xs, e, l, k⟩ := h
  exact ⟨xs, s _ _ e, l, fun i x n a b => (k i x n a b).same s⟩
theorem OutAt.same {CF : Addr} {v : V} {H H' : Hp} {o : Out} (h : OutAt CF H v o) (s : Same H H') : OutAt CF H' v o := by
  cases o with
  | err m => exact h
  | vals ns =>
    obtain ⟨p, e, k⟩ := h
    exact ⟨p, e, k.same s⟩
/-- one more at the end -/
theorem LN.more {CF p : Addr} {H H' : Hp} {ns : List Nm} {xs : List V} {x : V} {n : Nm} (e : H p = some (.lst xs)) (l : xs.length = ns.length) (k : ∀ (i : Nat) x n, xs[i]? = some x → ns[i]? = some n → NmAt CF H x n)
    (hx : NmAt CF H x n) (o : ∀ {y : V} {m : Nm}, NmAt CF H y m → NmAt CF H' y m) (e' : H' p = some (.lst (xs ++ [x]))) : LN CF H' p (ns ++ [n]) := by
  refine ⟨_, e', by simp [l], fun i y m a b => ?_⟩
  by_cases c : i < xs.length
  · rw [List.getElem?_append_left c] at a
    rw [List.getElem?_append_left (by omega)] at b
    exact o (k i y m a b)
  · rw [List.getElem?_append_right (by omega)] at a b
    rw [l] at a
    cases d : i - ns.length with
    | zero =>
      rw [d] at a b
      cases a
      cases b
      exact o hx
    | succ j =>
      rw [d] at a
      cases a
end Nu

set_option Elab.async false
set_option linter.all false
set_option maxRecDepth 100000
set_option autoImplicit false
set_option maxHeartbeats 4000000
namespace Rd
open PySem PySem.Spec PyProof.Rows L2
section
variable {σ : L2.St} {H : Hp}
theorem w_while {tc : TT} {tb : TS} {D : Ends} (W : Nat → L2.St → Hp → Prop) {m : Nat} (h0 : W m σ H)
    (h : ∀ m σ H, W m σ H → tc σ H fun b H1 => if b = true then ∃ N : L2.St → Hp → Prop, (∀ σ' H', N σ' H' → ∃ m', m' < m ∧ W m' σ' H') ∧ tb { D with nx := N, ct := N, bk := D.nx } σ H1 else D.nx σ H1) : tWhile tc tb D σ H := ⟨W, ⟨m, h0⟩, h⟩
theorem w_turn {W : Nat → L2.St → Hp → Prop} {m : Nat} {tb : TS} {D : Ends} (h : tb { D with nx := fun σ' H' => ∃ m', m' < m ∧ W m' σ' H', ct := fun σ' H' => ∃ m', m' < m ∧ W m' σ' H', bk := D.nx } σ H) : ∃ N : L2.St → Hp → Prop, (∀ σ' H', N σ' H' → ∃ m', m' < m ∧ W m' σ' H') ∧ tb { D with nx := N, ct := N, bk := D.nx } σ H := ⟨_, fun _ _ z => z, h⟩
def XfK (a : Addr) (cls : Value) (d : Option Addr) (C : Addr) (f : Str) (x : V) (H1 : Hp) (Q : VK) : Prop := x = .ref a ∧ cls = .ref C ∧ ∃ (dd : Addr) (fs : List (Str × V)) (v : V), d = some dd ∧ H1 dd = some (.xd fs) ∧ fs.lookup f = some v ∧ Q v H1
theorem w_xf {a : Addr} {cls : Value} {d : Option Addr} {C : Addr} {f : Str} {te : TE} {Q : VK} (h : te σ H fun x H1 => XfK a cls d C f x H1 Q) : tXf a cls d C f te σ H Q := h
theorem w_xfI {a dd C : Addr} {f : Str} {fs : List (Str × V)} {v : V} {Q : VK} (e : H dd = some (.xd fs)) (l : fs.lookup f = some v) (q : Q v H) : XfK a (.ref C) (some dd) C f (.ref a) H Q := ⟨rfl, rfl, dd, fs, v, rfl, e, l, q⟩
theorem thr_value (v : V) : (thrFs v).lookup ("value" : Str) = some v := by
  have h : (("value" : Str) == ("level" : Str)) = false := by decide +kernel
  simp [thrFs, List.lookup, h]
/-- l.append(v) -/
theorem w_bm {K : PySem.W.Frag} {T : String} {rd : V → List V → Hp → VK → Prop} {to : TE} {ta : TA} {Q : VK} (h : to σ H fun x H1 => tyV K T x H1 ∧ ta σ H1 fun vs H2 => rd x vs H2 Q) : tBM K T rd to ta σ H Q := h
theorem Same.other {H0 H1 H2 : Hp} {p : Addr} (s : Same H0 H1) (o : Oth p H1 H2) (n : H0 p = none) : Same H0 H2 := fun b u e => o b u (ne_of_none e n) (s b u e)
theorem w_app {l : Addr} {xs : List V} {y : V} {Q : VK} (h : H l = some (.lst xs)) (hz : xs.length < sizeLine) (q : Q .non (upd H l (.lst (xs ++ [y])))) : rAppend (.ref l) [y] H Q := ⟨l, xs, y, rfl, rfl, h, hz, q⟩
end
end Rd
namespace Nu
open PySem PySem.Spec PyProof.Rows L2 Rd
local macro_rules | `(tactic| walk_at "hp") => `(tactic| first | assumption | (refine same_get ?sm ?_; (case sm => assumption); walk_at "hp"))
local macro_rules | `(tactic| walk_at "rd") => `(tactic| first
  | with_reducible refine w_nx ?_
  | with_reducible refine w_rt ?_
  | with_reducible refine w_bk ?_
  | with_reducible refine w_ct ?_
  | with_reducible refine w_seq ?_
  | with_reducible refine w_next ?_
  | with_reducible refine w_ret ?_
  | with_reducible refine w_ifS ?_
  | with_reducible refine w_asg ?_
  | with_reducible refine w_name ?_
  | with_reducible refine w_par ?_
  | with_reducible refine w_parI ?_
  | with_reducible refine w_ii ?_
  | with_reducible refine w_i1 ?_
  | with_reducible refine w_drop ?_
  | with_reducible refine w_sFld ?_
  | ((with_reducible refine' w_var ?rdh ?_); (case rdh => exact rfl))
  | with_reducible refine w_c ?_
  | with_reducible refine w_op ?_
  | with_reducible refine w_un ?_
  | with_reducible refine w_I0 ?_
  | with_reducible refine w_U ?_
  | with_reducible refine w_bits ?_
  | with_reducible refine w_bitsI ?_
  | with_reducible refine w_tup ?_
  | with_reducible refine w_lst ?_
  | with_reducible refine w_nil ?_
  | with_reducible refine w_cons ?_
  | with_reducible refine w_fld ?_
  | with_reducible refine w_call ?_
  | with_reducible refine w_make ?_
  | with_reducible refine w_gsub ?_
  | with_reducible refine w_int1 ?_
  | with_reducible refine w_intB ?_
  | with_reducible refine w_for ?_
  | with_reducible refine w_rng1 ?_
  | with_reducible refine w_iList ?_
  | with_reducible refine w_iTup ?_
  | with_reducible refine w_makeD ?_
  | with_reducible refine w_nn ?_
  | with_reducible refine w_subB ?_
  | with_reducible refine w_meth ?_
  | with_reducible refine w_cb ?_
  | with_reducible refine w_test ?_
  | with_reducible refine w_B ?_
  | with_reducible refine w_bl ?_
  | with_reducible refine w_andV ?_
  | with_reducible refine w_orV ?_
  | with_reducible refine w_notV ?_
  | with_reducible refine w_and ?_
  | with_reducible refine w_or ?_
  | with_reducible refine w_not ?_
  | with_reducible refine w_if ?_
  | with_reducible refine w_gnil ?_
  | with_reducible refine w_gcons ?_
  | with_reducible refine iT ?_
  | with_reducible refine iF ?_
  | with_reducible refine w_eqI ?_
  | with_reducible refine w_neI ?_
  | with_reducible refine w_eqS ?_
  | with_reducible refine w_eqIS ?_
  | with_reducible refine w_eqSI ?_)

section
variable {P : Program} {w : World} {K : PySem.W.Frag} {mg : Str → Option Value} {base : Heap} {CF CP CE : Addr}
theorem NmAt.othP {H H' : Hp} {a : Addr} {v st lf lm y : V} : ∀ {m : Nm}, NmAt CF H y m → PlanAt CP H a v st lf lm → Oth a H H' → NmAt CF H' y m
  | .int _, h, _, _ => h
  | .fl _, ⟨b, e, h, ok⟩, hp, o => ⟨b, e, h.oth hp o, ok⟩
theorem FlAt.othL {H H' : Hp} {a x : Addr} {f : Fl} {xs : List V} (h : FlAt CF H x f) (hp : H a = some (.lst xs)) (o : Oth a H H') : FlAt CF H' x f := by
  obtain ⟨dx, e⟩ := h
  refine ⟨dx, o _ _ ?_ e⟩
  rintro rfl
  rw [e] at hp
  cases hp
theorem NmAt.othL {H H' : Hp} {a : Addr} {xs : List V} {y : V} : ∀ {m : Nm}, NmAt CF H y m → H a = some (.lst xs) → Oth a H H' → NmAt CF H' y m
  | .int _, h, _, _ => h
  | .fl _, ⟨b, e, h, ok⟩, hp, o => ⟨b, e, h.othL hp o, ok⟩
theorem PlanAt.othL {H H' : Hp} {a p : Addr} {xs : List V} {v st lf lm : V} (h : PlanAt CP H p v st lf lm) (hp : H a = some (.lst xs)) (o : Oth a H H') : PlanAt CP H' p v st lf lm := by
  obtain ⟨dx, e⟩ := h
  refine ⟨dx, o _ _ ?_ e⟩
  rintro rfl
  rw [e] at hp
  cases hp
theorem LN.othP {H H' : Hp} {a p : Addr} {ns : List Nm} {v st lf lm : V} (h : LN CF H p ns) (hp : PlanAt CP H a v st lf lm) (o : Oth a H H') : LN CF H' p ns := by
  obtain ⟨xs, e, l, k⟩ := h
  refine ⟨xs, o _ _ ?_ e, l, fun i x n a b => (k i x n a b).othP hp o⟩
  rintro rfl
  obtain ⟨dx, e2⟩ := hp
  rw [e] at e2
  cases e2
theorem dr_stop {s v : Int} {l : Nm} (h : okI v s l = false) : ∀ n, dr s l n v = []
  | 0 => rfl
  | n + 1 => by
    show (if okI v s l = true then _ else _) = _
    rw [h, if_neg Bool.false_ne_true]
theorem dr_go {s v : Int} {l : Nm} (h : okI v s l = true) (n : Nat) : dr s l (n + 1) v = .int v :: dr s l n (v + s) := by
  show (if okI v s l = true then _ else _) = _
  rw [if_pos h]
theorem frs_stop {f g l : Fl} (h : condF f g l = false) : ∀ n, frs g l n f = []
  | 0 => rfl
  | n + 1 => by
    show (if _ then _ else if condF f g l = true then _ else _) = _
    rw [h, if_neg Bool.false_ne_true]
    split <;> rfl
theorem frs_go {f g l : Fl} (h : condF f g l = true) (n1 : isNan f = false) (n2 : isNan l = false) (n3 : isNan g = false) (n : Nat) : frs g l (n + 1) f = .fl f :: frs g l n (addM f g) := by
  show (if (isNan f || (isNan l || isNan g)) = true then _ else if condF f g l = true then _ else _) = _
  rw [n1, n2, n3, if_neg (by decide), if_pos h]
/-- the plan's state, and what rounds are left by it (n more may be told) -/
def PSt (CF CP : Addr) (H0 H : Hp) (pv : V) (n : Nat) (rest : List Nm) : Prop :=
  (pv = .non ∧ rest = []) ∨
  (∃ p v s lf l, pv = .ref p ∧ H0 p = none ∧ PlanAt CP H p (.int v) (.int s) (.int lf) .non ∧ RQ s l v lf ∧ rest = dr s l n v) ∨
  (∃ p x y z f g l, pv = .ref p ∧ H0 p = none ∧ PlanAt CP H p (.ref x) (.ref y) .non (.ref z) ∧ FlAt CF H x f ∧ FlAt CF H y g ∧ FlAt CF H z l ∧ f.ok ∧ g.ok ∧ l.ok ∧ g.t ≠ .int 0 ∧ isNan g = false ∧ isNan l = false ∧ isNan f = false ∧ condF f g l = true ∧ rest = frs g l n f)
def spSaid (K : PySem.W.Frag) (CF : Addr) : Sp := fun vs H Q _ => ∃ (x y z : V) (nx ny nz : Option Nm), vs = [x, y, z] ∧ Kd8 K CF H x nx ∧ Kd8 K CF H y ny ∧ Kd8 K CF H z nz ∧ (∀ n, nx = some n → i64 n) ∧ ∀ v H', Same H H' → OutAt CF H' v (dueOf nx ny nz) → Q v H'
theorem Kd8.ok {H : Hp} {x : V} {n : Option Nm} (h : Kd8 K CF H x n) : ∀ m, n = some m → m.ok := by
  intro m e
  cases h with
  | num h => cases e; exact h.ok
  | bl b => cases e
  | str s => cases e
  | non => cases e
theorem okI_64 {v s : Int} {l : Nm} (h : okI v s l = true) : -9223372036854775808 ≤ v ∧ v < 9223372036854775808 := by
  unfold okI at h
  rw [Bool.and_eq_true, Bool.and_eq_true, decide_eq_true_eq, decide_eq_true_eq] at h
  exact ⟨h.1, h.2.1⟩
theorem p70 : (2 ^ 70 : Nat) = 1180591620717411303424 := by decide
theorem bits64 {i : Int} (h1 : -9223372036854775808 ≤ i) (h2 : i ≤ 9223372036854775808) : bits i ≤ 70 := (bits_le (k := 70)).2 (by rw [p70]; omega)
theorem sc_law_said : FnScope ["start", "limit", "step", "plan", "e", "found"] ["start", "limit", "step"] (defScope s_law_said) := ⟨rfl, rfl, rfl, by decide +kernel, rfl, by decide +kernel, by decide +kernel⟩
theorem ok_said (T : AllP K mg CF CP CE) (k_for_plan : Kn P w K mg base (L2.CX P w) 7 "for_plan" ["start", "limit", "step"] (spFor K CF CP CE)) (k_ForPlan_goes_on : KnM P w K mg base CX0 9 CP "goes_on" ["self"] (spGo CF CP)) :
    Kn P w K mg base CX0 10 "_law_said" ["start", "limit", "step"] (spSaid K CF) := by
  refine T.x_said.kn fun f fd F => ?_
  refine F.ok sc_law_said (fun vs H Q E h => ?_) (fun cdv A outer s H vs Q E hr h => ?_)
  · obtain ⟨x, y, z, nx, ny, nz, rfl, _⟩ := h
    rfl
  · obtain ⟨x, y, z, nx, ny, nz, rfl, hx, hy, hz, h64, q⟩ := h
    refine ⟨_, (C8.pss_cut (ps_try_as (i := 4) rfl rfl sc_law_said.nd rfl rfl ⟨rfl, by decide, Or.inl T.g_Thrown⟩ takes0 (fun W pn xe tk _ => (pss_one (ps_set (i := 3) sc_law_said.nd rfl (Or.inl rfl) (pkX k_for_plan hr tk (pa_cons (pv 0) (pa_cons (pv 1) (pa_cons (pv 2) pa_nil))))))) (fun a oe cls d pn hz hf => (pss_one (ps_ret (pe_xf T.xf_Thrown T.xn_value hz hf (pv 4))))))
      (pss_cons (ps_set (i := 5) sc_law_said.nd rfl (Or.inl rfl) (pe_lst pa_nil))
      (pss_cons (ps_while PassesOwn.never (PW.pt (pw_and (pt_cmpR op_notN (pv 3) pe_non (nomark _)) (pw_and1 (pt_cmpR op_lt (pe_callB call_len_seq (by rfl) T.b_len boot_len (pa_cons (pv 5) pa_nil)) pe_int (nomark _)))))
      (pss_cons (ps_expr (pe_bm PySem.F.plainAttrs_list PySem.F.slot_list_append PySem.F.type_list_append mt_append (pv 5) (pa_cons (pe_fld (pv 3) rfl) pa_nil)))
      (pss_one (ps_set (i := 3) sc_law_said.nd rfl (Or.inl rfl) (pe_ifExp (pt_val (pkM0 k_ForPlan_goes_on T.l_ForPlan hr (pv 3) rfl)) (pv 3) pe_non)))))
      (pss_one (ps_ret (pv 5)))))), ?_⟩
    have pd := plan_due (nx := nx) (ny := ny) (nz := nz) (fun n e => ⟨hx.ok n e, h64 n e⟩) hy.ok hz.ok toF_ok'
    generalize dueOf nx ny nz = o at pd q
    refine w_cut (Mid := fun σ' H' => ∃ pv rest, o = .vals rest ∧ σ' = [some x, some y, some z, some pv, none, none] ∧ Same H H' ∧ PSt CF CP H H' pv 12 rest) ?_ ?_
    · repeat walk_at "rd"
      refine w_callS ?_
      repeat walk_at "rd"
      refine ⟨x, y, z, nx, ny, nz, rfl, hx, hy, hz, ?_⟩
      cases er : planOf nx ny nz with
      | err m =>
        rw [er] at pd
        obtain rfl : o = .err m := pd
        refine fun d H1 s1 e1 => ⟨true, T.e_Thrown, fun _ a0 ha0 => ?_, fun z => nomatch z⟩
        repeat walk_at "rd"
        refine w_xf ?_
        repeat walk_at "rd"
        refine w_xfI e1 (thr_value _) ?_
        exact q _ H1 s1 rfl
      | no =>
        rw [er] at pd
        obtain rfl : o = .vals [] := pd
        intro H1 s1
        repeat walk_at "rd"
        exact ⟨.non, [], rfl, rfl, s1, .inl ⟨rfl, rfl⟩⟩
      | plI a st lf =>
        rw [er] at pd
        obtain ⟨l, rfl, rq⟩ := pd
        intro p H1 s1 n1 hp
        repeat walk_at "rd"
        exact ⟨.ref p, _, rfl, rfl, s1, .inr (.inl ⟨p, a, st, lf, l, rfl, n1, hp, rq, rfl⟩)⟩
      | plF f1 g l =>
        rw [er] at pd
        obtain ⟨rfl, k⟩ := pd
        intro p x1 y1 z1 H1 s1 n1 hp hf hg hl
        repeat walk_at "rd"
        obtain ⟨k1, k2, k3, k4, k5, k6, k7, k8⟩ := k
        exact ⟨.ref p, _, rfl, rfl, s1, .inr (.inr ⟨p, x1, y1, z1, f1, g, l, rfl, n1, hp, hf, hg, hl, k1, k2, k3, k4, k5, k6, k7, k8, rfl⟩)⟩
    · rintro σ' H1 ⟨pv, rest, rfl, rfl, s1, st⟩
      repeat walk_at "rd"
      refine w_lstI (by show 0 ≤ 1000; decide) fun fl H2 s2 n2 h2 => ?_
      repeat walk_at "rd"
      have st2 : PSt CF CP H H2 pv 12 rest := by
        rcases st with h | ⟨p, v, s, lf, l, k1, k2, k3, k4, k5⟩ | ⟨p, x1, y1, z1, f1, g, l, k1, k2, k3, k4, k5, k6, k7⟩
        · exact .inl h
        · exact .inr (.inl ⟨p, v, s, lf, l, k1, k2, k3.same s2, k4, k5⟩)
        · exact .inr (.inr ⟨p, x1, y1, z1, f1, g, l, k1, k2, k3.same s2, k4.same s2, k5.same s2, k6.same s2, k7⟩)
      refine w_while (fun m σ' H' => ∃ pv ns r2, σ' = [some x, some y, some z, some pv, none, some (.ref fl)] ∧ Same H H' ∧ LN CF H' fl ns ∧ ns.length + m = 12 ∧ PSt CF CP H H' pv m r2 ∧ rest = ns ++ r2) (m := 12)
        ⟨pv, [], rest, rfl, s1.trans s2, ⟨[], h2, rfl, fun i x n a => nomatch a⟩, rfl, st2, rfl⟩ ?_
      have nfl := s1.free n2
      rintro m σ' H3 ⟨pv, ns, r2, rfl, S3, ln, hm, st3, rfl⟩
      obtain ⟨xs, e3, lx, k3⟩ := id ln
      repeat walk_at "rd"
      rcases st3 with ⟨rfl, rfl⟩ | ⟨p, v, s, lf, l, rfl, np, hp, rq, rfl⟩ | ⟨p, x1, y1, z1, f1, g, l, rfl, np, hp, hf, hg, hl, okf, okg, okl, gz, g1, l1, f2, cd, rfl⟩
      · refine iN (fun z => absurd rfl z) (fun _ => ?_)
        repeat walk_at "rd"
        rw [List.append_nil] at q
        exact q _ H3 S3 ⟨fl, rfl, ln⟩
      · refine iN (fun _ => ?_) (fun z => nomatch z)
        repeat walk_at "rd"
        refine w_lenL e3 ?_
        repeat walk_at "rd"
        refine iD (fun c => ?_) (fun c => ?_)
        · obtain ⟨k, rfl⟩ : ∃ k, m = k + 1 := ⟨m - 1, by omega⟩
          refine w_turn ?_
          repeat walk_at "rd"
          refine w_bm ?_
          repeat walk_at "rd"
          refine ⟨.inl ⟨rfl, xs, SqL.of e3⟩, ?_⟩
          repeat walk_at "rd"
          obtain ⟨dx, hp'⟩ := id hp
          refine w_fldI hp' T.l_ForPlan T.n_value (lk_v _ _ _ _) ?_
          repeat walk_at "rd"
          refine w_app e3 (by rw [lx]; exact Nat.lt_of_le_of_lt (show ns.length ≤ 12 by omega) (by decide)) ?_
          have i64v := okI_64 rq.here
          have o4 : Oth fl H3 (upd H3 fl (.lst (xs ++ [.int v]))) := Oth.refl.put
          have ln4 : LN CF (upd H3 fl (.lst (xs ++ [.int v]))) fl (ns ++ [.int v]) := LN.more e3 lx k3 (n := .int v) ⟨rfl, bits64 i64v.1 (by omega)⟩ (fun h => h.othL e3 o4) upd_same
          have hp4 := hp.othL e3 o4
          generalize upd H3 fl (.lst (xs ++ [.int v])) = H4 at o4 ln4 hp4 ⊢
          have S4 := Same.other S3 o4 nfl
          rw [dr_go rq.here] at q ⊢
          obtain ⟨dx4, hp4'⟩ := id hp4
          repeat walk_at "rd"
          refine w_methI hp4' (lk_g _ _ _ _) ?_
          repeat walk_at "rd"
          refine ⟨p, rfl, .inl ⟨v, s, lf, hp4, fun z => ?_, fun z H5 o5 hp5 => ?_⟩⟩
          · subst z
            repeat walk_at "rd"
            refine ⟨k, by omega, .non, ns ++ [.int v], [], rfl, S4, ln4, by rw [List.length_append]; show ns.length + 1 + k = 12; omega, .inl ⟨rfl, rfl⟩, ?_⟩
            rw [dr_stop rq.stop]
            simp
          · repeat walk_at "rd"
            refine ⟨k, by omega, .ref p, ns ++ [.int v], _, rfl, Same.other S4 o5 np, ln4.othP hp4 o5, by rw [List.length_append]; show ns.length + 1 + k = 12; omega, .inr (.inl ⟨p, v + s, s, lf - 1, l, rfl, np, hp5, rq.next z, rfl⟩), ?_⟩
            simp
        · have hm0 : m = 0 := by
            have : ¬ ((xs.length : Nat) : Int) < 12 := c
            omega
          subst hm0
          repeat walk_at "rd"
          rw [show dr s l 0 v = [] from rfl, List.append_nil] at q
          exact q _ H3 S3 ⟨fl, rfl, ln⟩
      · refine iN (fun _ => ?_) (fun z => nomatch z)
        repeat walk_at "rd"
        refine w_lenL e3 ?_
        repeat walk_at "rd"
        refine iD (fun c => ?_) (fun c => ?_)
        · obtain ⟨k, rfl⟩ : ∃ k, m = k + 1 := ⟨m - 1, by omega⟩
          refine w_turn ?_
          repeat walk_at "rd"
          refine w_bm ?_
          repeat walk_at "rd"
          refine ⟨.inl ⟨rfl, xs, SqL.of e3⟩, ?_⟩
          repeat walk_at "rd"
          obtain ⟨dx, hp'⟩ := id hp
          refine w_fldI hp' T.l_ForPlan T.n_value (lk_v _ _ _ _) ?_
          repeat walk_at "rd"
          refine w_app e3 (by rw [lx]; exact Nat.lt_of_le_of_lt (show ns.length ≤ 12 by omega) (by decide)) ?_
          have o4 : Oth fl H3 (upd H3 fl (.lst (xs ++ [.ref x1]))) := Oth.refl.put
          have ln4 : LN CF (upd H3 fl (.lst (xs ++ [.ref x1]))) fl (ns ++ [.fl f1]) := LN.more e3 lx k3 (n := .fl f1) ⟨x1, rfl, hf, okf⟩ (fun h => h.othL e3 o4) upd_same
          have hp4 := hp.othL e3 o4
          have hf4 := hf.othL e3 o4
          have hg4 := hg.othL e3 o4
          have hl4 := hl.othL e3 o4
          generalize upd H3 fl (.lst (xs ++ [.ref x1])) = H4 at o4 ln4 hp4 hf4 hg4 hl4 ⊢
          have S4 := Same.other S3 o4 nfl
          rw [frs_go cd f2 l1 g1] at q ⊢
          obtain ⟨dx4, hp4'⟩ := id hp4
          repeat walk_at "rd"
          refine w_methI hp4' (lk_g _ _ _ _) ?_
          repeat walk_at "rd"
          refine ⟨p, rfl, .inr ⟨x1, y1, z1, f1, g, l, hp4, hf4, hg4, hl4, okf, okg, okl, fun x' H5 o5 hp5 hf5 => ?_⟩⟩
          rw [within_cond okg gz g1]
          repeat walk_at "rd"
          have len : (ns ++ [Nm.fl f1]).length + k = 12 := by rw [List.length_append]; show ns.length + 1 + k = 12; omega
          cases w5 : condF (addM f1 g) g l with
          | false =>
            refine iF ?_
            repeat walk_at "rd"
            refine ⟨k, by omega, .non, ns ++ [.fl f1], [], rfl, Same.other S4 o5 np, ln4.othP hp4 o5, len, .inl ⟨rfl, rfl⟩, ?_⟩
            rw [frs_stop w5]
            simp
          | true =>
            have nn : isNan (addM f1 g) = false := by
              cases hn : isNan (addM f1 g) with
              | false => rfl
              | true => rw [cond_nan hn] at w5; cases w5
            refine iT ?_
            repeat walk_at "rd"
            refine ⟨k, by omega, .ref p, ns ++ [.fl f1], _, rfl, Same.other S4 o5 np, ln4.othP hp4 o5, len, .inr (.inr ⟨p, x', y1, z1, addM f1 g, g, l, rfl, np, hp5, hf5, hg4.oth hp4 o5, hl4.oth hp4 o5, addM_ok okf okg, okg, okl, gz, g1, l1, nn, w5, rfl⟩), ?_⟩
            simp
        · have hm0 : m = 0 := by
            have : ¬ ((xs.length : Nat) : Int) < 12 := c
            omega
          subst hm0
          repeat walk_at "rd"
          rw [show frs g l 0 f1 = [] from rfl, List.append_nil] at q
          exact q _ H3 S3 ⟨fl, rfl, ln⟩
end
end Nu

set_option Elab.async false
set_option linter.all false
set_option maxRecDepth 100000
set_option autoImplicit false
set_option maxHeartbeats 4000000
namespace Rd
open PySem PySem.Spec PyProof.Rows L2
/-- a if c else b, as a test -/
def tIfT (tc t u : TT) : TT := fun σ H Q => tc σ H fun c H1 => if c = true then t σ H1 Q else u σ H1 Q
theorem pt_ifExp {X : Cx} {c a b : Expr} {pos : Pos} {tc t u : TT} (hc : PT X c tc) (ha : PT X a t) (hb : PT X b u) : PT X (.IfExp c a b pos) (tIfT tc t u) := by
  refine ⟨fun pins s σ H Q I h => ?_⟩
  have e : ∀ wh, isTrue (.IfExp c a b pos) X.env wh = (do if ← isTrue c X.env (eval c X.env) then isTrue a X.env (eval a X.env) else isTrue b X.env (eval b X.env)) := fun wh => by rfl
  rw [e]
  refine wpAny_bind (thn (hc.run pins s σ H _ I h) fun d s1 ⟨H1, I1, q1⟩ => ?_)
  cases d with
  | true => exact ha.run pins s1 σ H1 Q I1 (by rw [if_pos rfl] at q1; exact q1)
  | false => exact hb.run pins s1 σ H1 Q I1 (by rw [if_neg Bool.false_ne_true] at q1; exact q1)
section
variable {σ : L2.St} {H : Hp}
theorem w_ifT {tc t u : TT} {Q : Bool → Hp → Prop} (h : tc σ H fun c H1 => if c = true then t σ H1 Q else u σ H1 Q) : tIfT tc t u σ H Q := h
theorem w_chain {r r' : R2} {ta tb tc : TE} {Q : VK} (h : ta σ H fun x H1 => tb σ H1 fun y H2 => r x y H2 fun z H3 => ∃ k, z = .bl k ∧ if k = true then tc σ H3 fun y' H4 => r' y y' H4 Q else Q (.bl false) H3) : tChain r r' ta tb tc σ H Q := h
end
end Rd
namespace Nu
open PySem PySem.Spec PyProof.Rows L2 Rd
local macro_rules | `(tactic| walk_at "hp") => `(tactic| first | assumption | (refine same_get ?sm ?_; (case sm => assumption); walk_at "hp"))
local macro_rules | `(tactic| walk_at "rd") => `(tactic| first
  | with_reducible refine w_nx ?_
  | with_reducible refine w_rt ?_
  | with_reducible refine w_bk ?_
  | with_reducible refine w_ct ?_
  | with_reducible refine w_seq ?_
  | with_reducible refine w_next ?_
  | with_reducible refine w_ret ?_
  | with_reducible refine w_ifS ?_
  | with_reducible refine w_asg ?_
  | with_reducible refine w_name ?_
  | with_reducible refine w_par ?_
  | with_reducible refine w_parI ?_
  | with_reducible refine w_ii ?_
  | with_reducible refine w_i1 ?_
  | with_reducible refine w_drop ?_
  | with_reducible refine w_sFld ?_
  | ((with_reducible refine' w_var ?rdh ?_); (case rdh => exact rfl))
  | with_reducible refine w_c ?_
  | with_reducible refine w_op ?_
  | with_reducible refine w_un ?_
  | with_reducible refine w_I0 ?_
  | with_reducible refine w_U ?_
  | with_reducible refine w_bits ?_
  | with_reducible refine w_bitsI ?_
  | with_reducible refine w_tup ?_
  | with_reducible refine w_lst ?_
  | with_reducible refine w_nil ?_
  | with_reducible refine w_cons ?_
  | with_reducible refine w_fld ?_
  | with_reducible refine w_call ?_
  | with_reducible refine w_make ?_
  | with_reducible refine w_gsub ?_
  | with_reducible refine w_int1 ?_
  | with_reducible refine w_intB ?_
  | with_reducible refine w_for ?_
  | with_reducible refine w_rng1 ?_
  | with_reducible refine w_iList ?_
  | with_reducible refine w_iTup ?_
  | with_reducible refine w_makeD ?_
  | with_reducible refine w_nn ?_
  | with_reducible refine w_subB ?_
  | with_reducible refine w_meth ?_
  | with_reducible refine w_cb ?_
  | with_reducible refine w_test ?_
  | with_reducible refine w_B ?_
  | with_reducible refine w_bl ?_
  | with_reducible refine w_andV ?_
  | with_reducible refine w_orV ?_
  | with_reducible refine w_notV ?_
  | with_reducible refine w_and ?_
  | with_reducible refine w_or ?_
  | with_reducible refine w_not ?_
  | with_reducible refine w_if ?_
  | with_reducible refine w_gnil ?_
  | with_reducible refine w_gcons ?_
  | with_reducible refine iT ?_
  | with_reducible refine iF ?_
  | with_reducible refine w_eqI ?_
  | with_reducible refine w_neI ?_
  | with_reducible refine w_eqS ?_
  | with_reducible refine w_eqIS ?_
  | with_reducible refine w_eqSI ?_)

section
variable {P : Program} {w : World} {K : PySem.W.Frag} {mg : Str → Option Value} {base : Heap} {CF CP CE : Addr}
def spIsNum (K : PySem.W.Frag) (CF : Addr) : Sp := fun vs H Q _ => ∃ (x : V) (n : Option Nm), vs = [x] ∧ Kd8 K CF H x n ∧ Q (.bl n.isSome) H
theorem sc_law_is_number : FnScope ["thing"] ["thing"] (defScope s_law_is_number) := ⟨rfl, rfl, rfl, by decide +kernel, rfl, by decide +kernel, by decide +kernel⟩
theorem ok_is_num (T : AllP K mg CF CP CE) : Kn P w K mg base CX0 1 "_law_is_number" ["thing"] (spIsNum K CF) := by
  refine T.x_is_num.kn fun f fd F => ?_
  refine F.ok sc_law_is_number (fun vs H Q E h => ?_) (fun cdv A outer s H vs Q E hr h => ?_)
  · obtain ⟨x, n, rfl, _⟩ := h
    rfl
  · obtain ⟨x, n, rfl, hx, q⟩ := h
    refine ⟨_, (pss_one (ps_ret (pe_or (pe_callB call_isi (by rfl) T.b_isinstance boot_isinstance (pa_cons (pv 0) (pa_cons (pg "Float" T.g_Float (rref _)) pa_nil))) (pe_one (pe_and (pe_callB call_isi (by rfl) T.b_isinstance boot_isinstance (pa_cons (pv 0) (pa_cons (pe_bltn (by rfl) T.b_int boot_int (rty _)) pa_nil))) (pe_one (pe_not (pe_callB call_isi (by rfl) T.b_isinstance boot_isinstance (pa_cons (pv 0) (pa_cons (pe_bltn (by rfl) T.b_bool boot_bool (rty _)) pa_nil)))))))))), ?_⟩
    obtain ⟨⟨t, ty, i1, i2, i3, i4⟩, e, _⟩ := hx.says T
    rw [← e] at q
    repeat walk_at "rd"
    refine w_isi (.own CF) ty i4 ?_
    repeat walk_at "rd"
    cases c1 : isFl n with
    | true =>
      rw [c1] at q
      refine iT ?_
      exact q
    | false =>
      rw [c1] at q
      refine iF ?_
      repeat walk_at "rd"
      refine w_isi (.ty "int") ty i1 ?_
      repeat walk_at "rd"
      cases c2 : (isIn n || isBl x) with
      | true =>
        rw [c2] at q
        refine iT ?_
        repeat walk_at "rd"
        refine w_isi (.ty "bool") ty i2 ?_
        repeat walk_at "rd"
        exact q
      | false =>
        rw [c2] at q
        refine iF ?_
        exact q
theorem u_isn {x : V} {n : Option Nm} {H : Hp} {Q : VK} {E : XK} (h : Kd8 K CF H x n) (q : Q (.bl n.isSome) H) : spIsNum K CF ([x] ++ []) H Q E := ⟨x, n, rfl, h, q⟩
/-! ### what is due, of ints -/
def spDueI (K : PySem.W.Frag) (CF : Addr) : Sp := fun vs H Q _ => ∃ (a s : Int) (y : V) (ny : Option Nm), vs = [.int a, y, .int s] ∧ Kd8 K CF H y ny ∧ ∀ v H', Same H H' → OutAt CF H' v (dueI a s ny) → Q v H'
theorem sc_law_due_of_ints : FnScope ["start", "limit", "step", "found", "value"] ["start", "limit", "step"] (defScope s_law_due_of_ints) := ⟨rfl, rfl, rfl, by decide +kernel, rfl, by decide +kernel, by decide +kernel⟩
theorem ok_due_ints (T : AllP K mg CF CP CE) (k_law_is_number : Kn P w K mg base CX0 1 "_law_is_number" ["thing"] (spIsNum K CF)) (k_compare : Kn P w K mg base CX0 4 "compare" ["word", "one", "other"] (spCompare CF)) :
    Kn P w K mg base CX0 5 "_law_due_of_ints" ["start", "limit", "step"] (spDueI K CF) := by
  refine T.x_due_ints.kn fun f fd F => ?_
  refine F.ok sc_law_due_of_ints (fun vs H Q E h => ?_) (fun cdv A outer s H vs Q E hr h => ?_)
  · obtain ⟨a, s, y, ny, rfl, _⟩ := h
    rfl
  · obtain ⟨a, st, y, ny, rfl, hy, q⟩ := h
    refine ⟨_, (pss_cons (ps_if (pt_cmpR op_eq (pv 2) pe_int (nomark _)) (pss_one (ps_ret pe_str)) pss_nil)
      (pss_cons (ps_if (pt_not (pt_val (pk k_law_is_number hr (pa_cons (pv 1) pa_nil)))) (pss_one (ps_ret pe_str)) pss_nil)
      (pss_cons (ps_par (by rfl) sc_law_due_of_ints.nd (i := 3) (j := 4) rfl rfl (by decide) rfl rfl (pa_cons (pe_lst pa_nil) (pa_cons (pv 0) pa_nil)) (by rfl))
      (pss_cons (ps_while PassesOwn.never (PW.pt (pw_and (pt_cmpR op_lt (pe_callB call_len_seq (by rfl) T.b_len boot_len (pa_cons (pv 3) pa_nil)) pe_int (nomark _)) (pw_and1 (pt_chain op_le op_lt (pe_un un_neg (pe_op op_shlW pe_int pe_int)) (pv 4) (pe_op op_shlW pe_int pe_int)))))
      (pss_cons (ps_if (pt_not (pt_ifExp (pt_cmpR op_gt (pv 2) pe_int (nomark _)) (pt_val (pk k_compare hr (pa_cons pe_str (pa_cons (pv 4) (pa_cons (pv 1) pa_nil))))) (pt_val (pk k_compare hr (pa_cons pe_str (pa_cons (pv 1) (pa_cons (pv 4) pa_nil))))))) (pss_one (ps_ret (pv 3))) pss_nil)
      (pss_cons (ps_expr (pe_bm PySem.F.plainAttrs_list PySem.F.slot_list_append PySem.F.type_list_append mt_append (pv 3) (pa_cons (pv 4) pa_nil)))
      (pss_one (ps_set (i := 4) sc_law_due_of_ints.nd rfl (Or.inl rfl) (pe_op op_add (pv 4) (pv 2)))))))
      (pss_one (ps_ret (pv 3))))))), ?_⟩
    unfold dueI at q
    repeat walk_at "rd"
    refine iD (fun z => ?_) (fun z => ?_)
    · rw [if_pos z] at q
      repeat walk_at "rd"
      exact q _ H (Same.refl H) rfl
    rw [if_neg z] at q
    repeat walk_at "rd"
    refine u_isn hy ?_
    repeat walk_at "rd"
    cases ny with
    | none =>
      refine iT ?_
      repeat walk_at "rd"
      exact q _ H (Same.refl H) rfl
    | some l =>
      refine iF ?_
      have q : ∀ v H', Same H H' → OutAt CF H' v (.vals (dr st l 12 a)) → Q v H' := q
      have hl : NmAt CF H y l := by cases hy; assumption
      obtain ⟨tot, etot⟩ : ∃ tot, tot = [] ++ dr st l 12 a := ⟨_, rfl⟩
      rw [show dr st l 12 a = tot from etot.symm] at q
      repeat walk_at "rd"
      refine w_lstI (by show 0 ≤ 1000; decide) fun fl H2 s2 n2 h2 => ?_
      repeat walk_at "rd"
      refine w_while (fun m σ' H' => ∃ v ns, σ' = [some (.int a), some y, some (.int st), some (.ref fl), some (.int v)] ∧ Same H H' ∧ LN CF H' fl ns ∧ ns.length + m = 12 ∧ tot = ns ++ dr st l m v) (m := 12)
        ⟨a, [], rfl, s2, ⟨[], h2, rfl, fun i x n a => nomatch a⟩, rfl, etot⟩ ?_
      rintro m σ' H3 ⟨v, ns, rfl, S3, ln, hm, etot⟩
      obtain ⟨xs, e3, lx, k3⟩ := id ln
      have fin : dr st l m v = [] → Q (.ref fl) H3 := fun z => q _ H3 S3 ⟨fl, rfl, by rw [etot, z, List.append_nil]; exact ln⟩
      have e63 : (1 : Int) * 2 ^ (63 : Int).toNat = 9223372036854775808 := by decide
      repeat walk_at "rd"
      refine w_lenL e3 ?_
      repeat walk_at "rd"
      refine iD (fun c => ?_) (fun c => ?_)
      · obtain ⟨k, rfl⟩ : ∃ k, m = k + 1 := ⟨m - 1, by omega⟩
        have edr : dr st l (k + 1) v = if okI v st l = true then .int v :: dr st l k (v + st) else [] := rfl
        repeat walk_at "rd"
        refine w_chain ?_
        repeat walk_at "rd"
        refine w_I (cshl (i := 1) (j := 63) (by decide) (by decide) (by decide)) ?_
        rw [e63]
        repeat walk_at "rd"
        refine iD (fun c1 => ?_) (fun c1 => ?_)
        · repeat walk_at "rd"
          refine w_I (cshl (i := 1) (j := 63) (by decide) (by decide) (by decide)) ?_
          rw [e63]
          repeat walk_at "rd"
          refine iD (fun c2 => ?_) (fun c2 => ?_)
          · refine w_turn ?_
            have nv : NmAt CF H3 (.int v) (.int v) := ⟨rfl, bits64 c1 (by omega)⟩
            have hl3 := hl.same S3
            have eok : okI v st l = (if 0 < st then cmpV "le" (.int v) l else cmpV "le" l (.int v)) := by
              unfold okI
              rw [decide_eq_true c1, decide_eq_true c2, Bool.true_and, Bool.true_and]
            repeat walk_at "rd"
            refine w_ifT ?_
            repeat walk_at "rd"
            refine iD (fun c3 => ?_) (fun c3 => ?_)
            · change 0 < st at c3
              repeat walk_at "rd"
              refine u_cmp nv hl3 fun H4 s4 => ?_
              rw [if_pos c3] at eok
              repeat walk_at "rd"
              have ln4 := ln.same s4
              have S4 := S3.trans s4
              cases ec : cmpV "le" (.int v) l with
              | false =>
                rw [ec] at eok
                refine iT ?_
                repeat walk_at "rd"
                refine q _ H4 S4 ⟨fl, rfl, ?_⟩
                rw [etot, edr, eok, if_neg Bool.false_ne_true, List.append_nil]
                exact ln4
              | true =>
                rw [ec] at eok
                refine iF ?_
                repeat walk_at "rd"
                refine w_bm ?_
                repeat walk_at "rd"
                refine ⟨.inl ⟨rfl, xs, SqL.of (s4 _ _ e3)⟩, ?_⟩
                repeat walk_at "rd"
                refine w_app (s4 _ _ e3) (by rw [lx]; exact Nat.lt_of_le_of_lt (show ns.length ≤ 12 by omega) (by decide)) ?_
                have o5 : Oth fl H4 (upd H4 fl (.lst (xs ++ [.int v]))) := Oth.refl.put
                have ln5 : LN CF (upd H4 fl (.lst (xs ++ [.int v]))) fl (ns ++ [.int v]) := LN.more e3 lx k3 (n := .int v) nv (fun h => (h.same s4).othL (s4 _ _ e3) o5) upd_same
                repeat walk_at "rd"
                refine ⟨k, by omega, v + st, ns ++ [.int v], rfl, Same.other S4 o5 n2, ln5, by rw [List.length_append]; show ns.length + 1 + k = 12; omega, ?_⟩
                rw [etot, edr, eok, if_pos rfl]
                simp
            · change ¬ 0 < st at c3
              repeat walk_at "rd"
              refine u_cmp hl3 nv fun H4 s4 => ?_
              rw [if_neg c3] at eok
              repeat walk_at "rd"
              have ln4 := ln.same s4
              have S4 := S3.trans s4
              cases ec : cmpV "le" l (.int v) with
              | false =>
                rw [ec] at eok
                refine iT ?_
                repeat walk_at "rd"
                refine q _ H4 S4 ⟨fl, rfl, ?_⟩
                rw [etot, edr, eok, if_neg Bool.false_ne_true, List.append_nil]
                exact ln4
              | true =>
                rw [ec] at eok
                refine iF ?_
                repeat walk_at "rd"
                refine w_bm ?_
                repeat walk_at "rd"
                refine ⟨.inl ⟨rfl, xs, SqL.of (s4 _ _ e3)⟩, ?_⟩
                repeat walk_at "rd"
                refine w_app (s4 _ _ e3) (by rw [lx]; exact Nat.lt_of_le_of_lt (show ns.length ≤ 12 by omega) (by decide)) ?_
                have o5 : Oth fl H4 (upd H4 fl (.lst (xs ++ [.int v]))) := Oth.refl.put
                have ln5 : LN CF (upd H4 fl (.lst (xs ++ [.int v]))) fl (ns ++ [.int v]) := LN.more e3 lx k3 (n := .int v) nv (fun h => (h.same s4).othL (s4 _ _ e3) o5) upd_same
                repeat walk_at "rd"
                refine ⟨k, by omega, v + st, ns ++ [.int v], rfl, Same.other S4 o5 n2, ln5, by rw [List.length_append]; show ns.length + 1 + k = 12; omega, ?_⟩
                rw [etot, edr, eok, if_pos rfl]
                simp
          · repeat walk_at "rd"
            refine fin ?_
            rw [edr, if_neg]
            intro h
            exact c2 (okI_64 h).2
        · repeat walk_at "rd"
          refine fin ?_
          rw [edr, if_neg]
          intro h
          exact c1 (okI_64 h).1
      · have hm0 : m = 0 := by
          have : ¬ ((xs.length : Nat) : Int) < 12 := c
          omega
        subst hm0
        repeat walk_at "rd"
        exact fin rfl
end
end Nu

set_option Elab.async false
set_option linter.all false
set_option maxRecDepth 100000
set_option autoImplicit false
set_option maxHeartbeats 4000000
namespace Nu
open PySem PySem.Spec PyProof.Rows L2 Rd
local macro_rules | `(tactic| walk_at "hp") => `(tactic| first | assumption | (refine same_get ?sm ?_; (case sm => assumption); walk_at "hp"))
local macro_rules | `(tactic| walk_at "rd") => `(tactic| first
  | with_reducible refine w_nx ?_
  | with_reducible refine w_rt ?_
  | with_reducible refine w_bk ?_
  | with_reducible refine w_ct ?_
  | with_reducible refine w_seq ?_
  | with_reducible refine w_next ?_
  | with_reducible refine w_ret ?_
  | with_reducible refine w_ifS ?_
  | with_reducible refine w_asg ?_
  | with_reducible refine w_name ?_
  | with_reducible refine w_par ?_
  | with_reducible refine w_parI ?_
  | with_reducible refine w_ii ?_
  | with_reducible refine w_i1 ?_
  | with_reducible refine w_drop ?_
  | with_reducible refine w_sFld ?_
  | ((with_reducible refine' w_var ?rdh ?_); (case rdh => exact rfl))
  | with_reducible refine w_c ?_
  | with_reducible refine w_op ?_
  | with_reducible refine w_un ?_
  | with_reducible refine w_I0 ?_
  | with_reducible refine w_U ?_
  | with_reducible refine w_bits ?_
  | with_reducible refine w_bitsI ?_
  | with_reducible refine w_tup ?_
  | with_reducible refine w_lst ?_
  | with_reducible refine w_nil ?_
  | with_reducible refine w_cons ?_
  | with_reducible refine w_fld ?_
  | with_reducible refine w_call ?_
  | with_reducible refine w_make ?_
  | with_reducible refine w_gsub ?_
  | with_reducible refine w_int1 ?_
  | with_reducible refine w_intB ?_
  | with_reducible refine w_for ?_
  | with_reducible refine w_rng1 ?_
  | with_reducible refine w_iList ?_
  | with_reducible refine w_iTup ?_
  | with_reducible refine w_makeD ?_
  | with_reducible refine w_nn ?_
  | with_reducible refine w_subB ?_
  | with_reducible refine w_meth ?_
  | with_reducible refine w_cb ?_
  | with_reducible refine w_test ?_
  | with_reducible refine w_B ?_
  | with_reducible refine w_bl ?_
  | with_reducible refine w_andV ?_
  | with_reducible refine w_orV ?_
  | with_reducible refine w_notV ?_
  | with_reducible refine w_and ?_
  | with_reducible refine w_or ?_
  | with_reducible refine w_not ?_
  | with_reducible refine w_if ?_
  | with_reducible refine w_gnil ?_
  | with_reducible refine w_gcons ?_
  | with_reducible refine iT ?_
  | with_reducible refine iF ?_
  | with_reducible refine w_eqI ?_
  | with_reducible refine w_neI ?_
  | with_reducible refine w_eqS ?_
  | with_reducible refine w_eqIS ?_
  | with_reducible refine w_eqSI ?_)

section
variable {P : Program} {w : World} {K : PySem.W.Frag} {mg : Str → Option Value} {base : Heap} {CF CP CE : Addr}
theorem num_bl {H : Hp} {x : V} {m : Nm} (h : NmAt CF H x m) : isBl x = false := by
  cases m with
  | int i => obtain ⟨rfl, _⟩ := h; rfl
  | fl f => obtain ⟨a, rfl, _⟩ := h; rfl
theorem sc_law_due : FnScope ["start", "limit", "step", "word", "thing", "value", "last", "gap", "found"] ["start", "limit", "step"] (defScope s_law_due) := ⟨rfl, rfl, rfl, by decide +kernel, rfl, by decide +kernel, by decide +kernel⟩
theorem ok_due (T : AllP K mg CF CP CE) (k_law_is_number : Kn P w K mg base CX0 1 "_law_is_number" ["thing"] (spIsNum K CF)) (k_law_due_of_ints : Kn P w K mg base CX0 5 "_law_due_of_ints" ["start", "limit", "step"] (spDueI K CF)) (k_to_float : Kn P w K mg base CX0 6 "to_float" ["number"] (spToF K CF))
    (k_compare : Kn P w K mg base CX0 4 "compare" ["word", "one", "other"] (spCompare CF)) (k_arith : Kn P w K mg base CX0 8 "arith" ["word", "one", "other"] (spByF CF)) : Kn P w K mg base CX0 9 "_law_due" ["start", "limit", "step"] (spSaid K CF) := by
  refine T.x_due.kn fun f fd F => ?_
  refine F.ok sc_law_due (fun vs H Q E h => ?_) (fun cdv A outer s H vs Q E hr h => ?_)
  · obtain ⟨x, y, z, nx, ny, nz, rfl, _⟩ := h
    rfl
  · obtain ⟨x, y, z, nx, ny, nz, rfl, hx, hy, hz, h64, q⟩ := h
    refine ⟨_, (C8.pss_cut (ps_if (PW.pt (pw_and (pt_val (pk k_law_is_number hr (pa_cons (pv 0) pa_nil))) (pw_and (pt_val (pk k_law_is_number hr (pa_cons (pv 2) pa_nil))) (pw_and (pt_val (pe_callB call_isi (by rfl) T.b_isinstance boot_isinstance (pa_cons (pv 0) (pa_cons (pe_bltn (by rfl) T.b_int boot_int (rty _)) pa_nil)))) (pw_and1 (pt_val (pe_callB call_isi (by rfl) T.b_isinstance boot_isinstance (pa_cons (pv 2) (pa_cons (pe_bltn (by rfl) T.b_int boot_int (rty _)) pa_nil))))))))) (pss_one (ps_ret (pk k_law_due_of_ints hr (pa_cons (pv 0) (pa_cons (pv 1) (pa_cons (pv 2) pa_nil)))))) pss_nil)
      (C8.pss_cut (ps_for PassesOwn.never rfl (pi_list (pe_lst (pa_cons (pe_tup (pa_cons pe_str (pa_cons (pv 1) pa_nil))) (pa_cons (pe_tup (pa_cons pe_str (pa_cons (pv 2) pa_nil))) (pa_cons (pe_tup (pa_cons pe_str (pa_cons (pv 0) pa_nil))) pa_nil))))) (pg_tup (by rfl) (pgs_cons (pg_name (i := 3) sc_law_due.nd rfl (Or.inl rfl)) (pgs_cons (pg_name (i := 4) sc_law_due.nd rfl (Or.inl rfl)) pgs_nil)))
      (pss_one (ps_if (pt_not (pt_val (pk k_law_is_number hr (pa_cons (pv 4) pa_nil)))) (pss_one (ps_ret (pe_op op_add_str (pe_op op_add_str pe_str (pv 3)) pe_str))) pss_nil)))
      (pss_cons (ps_par3 (by rfl) sc_law_due.nd (i := 5) (j := 6) (l := 7) rfl rfl rfl (by decide) (by decide) (by decide) rfl rfl rfl (pa_cons (pk k_to_float hr (pa_cons (pv 0) pa_nil)) (pa_cons (pk k_to_float hr (pa_cons (pv 1) pa_nil)) (pa_cons (pk k_to_float hr (pa_cons (pv 2) pa_nil)) pa_nil))) (by rfl))
      (pss_cons (ps_if (pt_cmpR op_eq (pe_fld (pv 7) rfl) pe_int (nomark _)) (pss_one (ps_ret pe_str)) pss_nil)
      (pss_cons (ps_set (i := 8) sc_law_due.nd rfl (Or.inl rfl) (pe_lst pa_nil))
      (pss_cons (ps_while PassesOwn.never (PW.pt (pw_and (pt_cmpR op_lt (pe_callB call_len_seq (by rfl) T.b_len boot_len (pa_cons (pv 8) pa_nil)) pe_int (nomark _)) (pw_and1 (pt_cmpR op_notIn_seq pe_str (pe_tup (pa_cons (pe_fld (pv 5) rfl) (pa_cons (pe_fld (pv 6) rfl) (pa_cons (pe_fld (pv 7) rfl) pa_nil)))) rfl))))
      (pss_cons (ps_if (pt_not (pt_ifExp (pt_cmpR op_gt (pe_fld (pv 7) rfl) pe_int (nomark _)) (pt_val (pk k_compare hr (pa_cons pe_str (pa_cons (pv 5) (pa_cons (pv 6) pa_nil))))) (pt_val (pk k_compare hr (pa_cons pe_str (pa_cons (pv 6) (pa_cons (pv 5) pa_nil))))))) (pss_one (ps_ret (pv 8))) pss_nil)
      (pss_cons (ps_expr (pe_bm PySem.F.plainAttrs_list PySem.F.slot_list_append PySem.F.type_list_append mt_append (pv 8) (pa_cons (pv 5) pa_nil)))
      (pss_one (ps_set (i := 5) sc_law_due.nd rfl (Or.inl rfl) (pk k_arith hr (pa_cons pe_str (pa_cons (pv 5) (pa_cons (pv 7) pa_nil)))))))))
      (pss_one (ps_ret (pv 8))))))))), ?_⟩
    have rest : (isIn nx && isIn nz) = false → dueOf nx ny nz = dueF nx ny nz := dueOf_other
    refine w_cut (Mid := fun σ' H' => (isIn nx && isIn nz) = false ∧ σ' = [some x, some y, some z, none, none, none, none, none, none] ∧ H' = H) ?_ ?_
    · repeat walk_at "rd"
      refine u_isn hx ?_
      repeat walk_at "rd"
      cases nx with
      | none =>
        refine iF ?_
        repeat walk_at "rd"
        exact ⟨rfl, rfl, rfl⟩
      | some a =>
        have hx : NmAt CF H x a := by cases hx; assumption
        refine iT ?_
        repeat walk_at "rd"
        refine u_isn hz ?_
        repeat walk_at "rd"
        cases nz with
        | none =>
          refine iF ?_
          repeat walk_at "rd"
          exact ⟨by cases a <;> rfl, rfl, rfl⟩
        | some b =>
          have hz : NmAt CF H z b := by cases hz; assumption
          refine iT ?_
          obtain ⟨t, ty, i1, i2, i3, i4⟩ := (Kd8.num hx).says (CP := CP) (CE := CE) T |>.1
          obtain ⟨t2, ty2, j1, j2, j3, j4⟩ := (Kd8.num hz).says (CP := CP) (CE := CE) T |>.1
          rw [num_bl hx, Bool.or_false] at i1
          rw [num_bl hz, Bool.or_false] at j1
          repeat walk_at "rd"
          refine w_isi (.ty "int") ty i1 ?_
          repeat walk_at "rd"
          cases a with
          | fl fa =>
            refine iF ?_
            repeat walk_at "rd"
            exact ⟨rfl, rfl, rfl⟩
          | int a =>
            refine iT ?_
            repeat walk_at "rd"
            refine w_isi (.ty "int") ty2 j1 ?_
            repeat walk_at "rd"
            cases b with
            | fl fb =>
              refine iF ?_
              repeat walk_at "rd"
              exact ⟨rfl, rfl, rfl⟩
            | int b =>
              obtain ⟨rfl, ba⟩ := hx
              obtain ⟨rfl, bb⟩ := hz
              refine iT ?_
              repeat walk_at "rd"
              exact ⟨a, b, y, ny, rfl, hy, fun v H' s1 o1 => q v H' s1 o1⟩
    rintro σ' H0 ⟨hno, rfl, rfl⟩
    refine w_cut (Mid := fun σ' H' => ∃ a l s u v, nx = some a ∧ ny = some l ∧ nz = some s ∧ σ' = [some x, some y, some z, u, v, none, none, none, none] ∧ Same H0 H') ?_ ?_
    · repeat walk_at "rd"
      refine w_tup2 fun t1 H1 s1 n1 h1 => ?_
      repeat walk_at "rd"
      refine w_tup2 fun t2 H2 s2 n2 h2 => ?_
      repeat walk_at "rd"
      refine w_tup2 fun t3 H3 s3 n3 h3 => ?_
      repeat walk_at "rd"
      refine w_lst3 fun t4 H4 s4 n4 h4 => ?_
      have h1 := s4 _ _ (s3 _ _ (s2 _ _ h1))
      have h2 := s4 _ _ (s3 _ _ h2)
      have h3 := s4 _ _ h3
      have S0 := s1.trans (s2.trans (s3.trans s4))
      refine w_iListI h4 ?_
      refine for_list (xs := [.ref t1, .ref t2, .ref t3]) (fun i σ' H' => ∃ u v, σ' = [some x, some y, some z, u, v, none, none, none, none] ∧ Same H4 H' ∧ (0 < i → ny.isSome = true) ∧ (1 < i → nz.isSome = true) ∧ (2 < i → nx.isSome = true)) ⟨none, none, rfl, Same.refl _, fun h => absurd h (by decide), fun h => absurd h (by decide), fun h => absurd h (by decide)⟩ (fun i σ H' _ ⟨_, _, _, S, _⟩ => SqL.of (S _ _ h4)) ?_ ?_
      rintro i t σ' H' hi ⟨u, v, rfl, S, c1, c2, c3⟩
      have hi3 : i < 3 := (List.getElem?_eq_some_iff.mp hi).1
      obtain rfl | rfl | rfl : i = 0 ∨ i = 1 ∨ i = 2 := by omega
      · -- turn 0
        cases hi
        refine w_gtup (S _ _ h1) rfl ?_
        repeat walk_at "rd"
        refine u_isn (hy.same (S0.trans S)) ?_
        repeat walk_at "rd"
        cases eny : ny with
        | none =>
          refine iT ?_
          repeat walk_at "rd"
          refine ⟨_, _, rfl, rfl, by decide +kernel, ?_⟩
          refine ⟨_, _, rfl, rfl, by decide +kernel, ?_⟩
          refine q _ H' (S0.trans S) ?_
          rw [show dueOf nx ny nz = .err (m_must "limit") by rw [rest hno, eny]; rfl]
          rfl
        | some l =>
          refine iF ?_
          repeat walk_at "rd"
          exact ⟨_, _, rfl, S, fun _ => rfl, fun h => absurd h (by decide), fun h => absurd h (by decide)⟩
      · -- turn 1
        cases hi
        refine w_gtup (S _ _ h2) rfl ?_
        repeat walk_at "rd"
        refine u_isn (hz.same (S0.trans S)) ?_
        repeat walk_at "rd"
        cases enz : nz with
        | none =>
          refine iT ?_
          repeat walk_at "rd"
          refine ⟨_, _, rfl, rfl, by decide +kernel, ?_⟩
          refine ⟨_, _, rfl, rfl, by decide +kernel, ?_⟩
          refine q _ H' (S0.trans S) ?_
          obtain ⟨l, el⟩ := Option.isSome_iff_exists.1 (c1 (by decide))
          rw [show dueOf nx ny nz = .err (m_must "step") by rw [rest hno, el, enz]; rfl]
          rfl
        | some l =>
          refine iF ?_
          repeat walk_at "rd"
          exact ⟨_, _, rfl, S, fun _ => c1 (by decide), fun _ => rfl, fun h => absurd h (by decide)⟩
      · -- turn 2
        cases hi
        refine w_gtup (S _ _ h3) rfl ?_
        repeat walk_at "rd"
        refine u_isn (hx.same (S0.trans S)) ?_
        repeat walk_at "rd"
        cases enx : nx with
        | none =>
          refine iT ?_
          repeat walk_at "rd"
          refine ⟨_, _, rfl, rfl, by decide +kernel, ?_⟩
          refine ⟨_, _, rfl, rfl, by decide +kernel, ?_⟩
          refine q _ H' (S0.trans S) ?_
          obtain ⟨l, el⟩ := Option.isSome_iff_exists.1 (c1 (by decide))
          obtain ⟨l2, el2⟩ := Option.isSome_iff_exists.1 (c2 (by decide))
          rw [show dueOf nx ny nz = .err (m_must "initial value") by rw [rest hno, el, el2, enx]; rfl]
          rfl
        | some l =>
          refine iF ?_
          repeat walk_at "rd"
          exact ⟨_, _, rfl, S, fun _ => c1 (by decide), fun _ => c2 (by decide), fun _ => rfl⟩
      · rintro σ' H' ⟨u, v, rfl, S, c1, c2, c3⟩
        obtain ⟨l, el⟩ := Option.isSome_iff_exists.1 (c1 (by show 0 < 3; decide))
        obtain ⟨s, es⟩ := Option.isSome_iff_exists.1 (c2 (by show 1 < 3; decide))
        obtain ⟨a, ea⟩ := Option.isSome_iff_exists.1 (c3 (by show 2 < 3; decide))
        exact ⟨a, l, s, u, v, ea, el, es, rfl, S0.trans S⟩
    rintro σ' H1 ⟨a, l, s, u, v, rfl, rfl, rfl, rfl, S1⟩
    have q : ∀ v H', Same H0 H' → OutAt CF H' v (dueG (toF a) (toF s) (toF l)) → Q v H' := by
      have r := rest hno
      rw [r] at q
      exact q
    have hx : NmAt CF H0 x a := by cases hx; assumption
    have hy : NmAt CF H0 y l := by cases hy; assumption
    have hz : NmAt CF H0 z s := by cases hz; assumption
    have okf := toF_ok hx
    have okl := toF_ok hy
    have okg := toF_ok hz
    repeat walk_at "rd"
    refine w_par3 ?_
    repeat walk_at "rd"
    refine u_toF (hx.same S1) fun x1 H2 s2 f2 => ?_
    repeat walk_at "rd"
    refine u_toF (hy.same (S1.trans s2)) fun y1 H3 s3 l3 => ?_
    repeat walk_at "rd"
    refine u_toF (hz.same (S1.trans (s2.trans s3))) fun z1 H4 s4 g4 => ?_
    have S4 := S1.trans (s2.trans (s3.trans s4))
    have f4 := f2.same (s3.trans s4)
    have l4 := l3.same s4
    generalize toF a = f at *
    generalize toF l = lm at *
    generalize toF s = g at *
    obtain ⟨d3, h3⟩ := id g4
    repeat walk_at "rd"
    refine ⟨_, _, _, rfl, ?_⟩
    repeat walk_at "rd"
    refine w_fldI h3 T.l_Float T.n_top (flds_t _ _ _) ?_
    repeat walk_at "rd"
    refine w_eq g.scal ?_
    unfold dueG at q
    repeat walk_at "rd"
    refine iD (fun c => ?_) (fun c => ?_)
    · rw [if_pos c] at q
      repeat walk_at "rd"
      exact q _ H4 S4 rfl
    rw [if_neg c] at q
    repeat walk_at "rd"
    refine w_lstI (by show 0 ≤ 1000; decide) fun fl H5 s5 n5 h5 => ?_
    repeat walk_at "rd"
    obtain ⟨tot, etot⟩ : ∃ tot, tot = [] ++ frs g lm 12 f := ⟨_, rfl⟩
    rw [show frs g lm 12 f = tot from etot.symm] at q
    refine w_while (fun m σ' H' => ∃ xv f ns u v, σ' = [some x, some y, some z, u, v, some (.ref xv), some (.ref y1), some (.ref z1), some (.ref fl)] ∧ Same H0 H' ∧ LN CF H' fl ns ∧ ns.length + m = 12 ∧ FlAt CF H' xv f ∧ f.ok ∧ FlAt CF H' z1 g ∧ FlAt CF H' y1 lm ∧ tot = ns ++ frs g lm m f) (m := 12)
      ⟨x1, f, [], _, _, rfl, S4.trans s5, ⟨[], h5, rfl, fun i x n a => nomatch a⟩, rfl, f4.same s5, okf, g4.same s5, l4.same s5, etot⟩ ?_
    have nfl := S4.free n5
    clear f4 g4 l4 h3 okf etot
    rintro m σ' H3 ⟨xv, f, ns, u', v', rfl, S5, ln, hm, hf, okf, hg, hl, etot⟩
    obtain ⟨xs, e3, lx, k3⟩ := id ln
    obtain ⟨d1, h1⟩ := id hf
    obtain ⟨d2, h2⟩ := id hl
    obtain ⟨d3, h3⟩ := id hg
    repeat walk_at "rd"
    refine w_lenL e3 ?_
    repeat walk_at "rd"
    refine iD (fun c => ?_) (fun c => ?_)
    · obtain ⟨k, rfl⟩ : ∃ k, m = k + 1 := ⟨m - 1, by omega⟩
      have edr : frs g lm (k + 1) f = if (isNan f || (isNan lm || isNan g)) = true then [] else if condF f g lm = true then .fl f :: frs g lm k (addM f g) else [] := rfl
      repeat walk_at "rd"
      refine w_fldI h1 T.l_Float T.n_top (flds_t _ _ _) ?_
      repeat walk_at "rd"
      refine w_fldI h2 T.l_Float T.n_top (flds_t _ _ _) ?_
      repeat walk_at "rd"
      refine w_fldI h3 T.l_Float T.n_top (flds_t _ _ _) ?_
      repeat walk_at "rd"
      refine w_tup3 fun a1 H5 s5 n5 e5 => ?_
      refine w_nin e5 rfl (by simp [Fl.flat]) ?_
      have ein : inV (.str "nan") [f.t, lm.t, g.t] = (isNan f || (isNan lm || isNan g)) := by
        unfold inV
        simp only [List.any_cons, List.any_nil, Bool.or_false, nan_in1]
      rw [ein]
      repeat walk_at "rd"
      cases n0 : (isNan f || (isNan lm || isNan g)) with
      | true =>
        refine iF ?_
        repeat walk_at "rd"
        refine q _ H5 (S5.trans s5) ⟨fl, rfl, ?_⟩
        rw [etot, edr, n0, if_pos rfl, List.append_nil]
        exact ln.same s5
      | false =>
        refine iT ?_
        refine w_turn ?_
        have nv : NmAt CF H5 (.ref xv) (.fl f) := ⟨xv, rfl, hf.same s5, okf⟩
        have nl : NmAt CF H5 (.ref y1) (.fl lm) := ⟨y1, rfl, hl.same s5, okl⟩
        have eok : condF f g lm = (if 0 < g.s then cmpV "le" (.fl f) (.fl lm) else cmpV "le" (.fl lm) (.fl f)) := rfl
        repeat walk_at "rd"
        refine w_ifT ?_
        repeat walk_at "rd"
        refine w_fldI (s5 _ _ h3) T.l_Float T.n_sign (flds_s _ _ _) ?_
        repeat walk_at "rd"
        by_cases c3 : 0 < g.s
        · rw [decide_eq_true c3]
          refine iT ?_
          repeat walk_at "rd"
          refine u_cmp nv nl fun H6 s6 => ?_
          rw [if_pos c3] at eok
          repeat walk_at "rd"
          have ln6 := (ln.same s5).same s6
          have S6 := (S5.trans s5).trans s6
          have e6 := s6 _ _ (s5 _ _ e3)
          cases ec : cmpV "le" (.fl f) (.fl lm) with
          | false =>
            rw [ec] at eok
            refine iT ?_
            repeat walk_at "rd"
            refine q _ H6 S6 ⟨fl, rfl, ?_⟩
            rw [etot, edr, if_neg (by rw [n0]; exact Bool.false_ne_true), eok, if_neg Bool.false_ne_true, List.append_nil]
            exact ln6
          | true =>
            rw [ec] at eok
            refine iF ?_
            repeat walk_at "rd"
            refine w_bm ?_
            repeat walk_at "rd"
            refine ⟨.inl ⟨rfl, xs, SqL.of e6⟩, ?_⟩
            repeat walk_at "rd"
            refine w_app e6 (by rw [lx]; exact Nat.lt_of_le_of_lt (show ns.length ≤ 12 by omega) (by decide)) ?_
            have o7 : Oth fl H6 (upd H6 fl (.lst (xs ++ [.ref xv]))) := Oth.refl.put
            have ln7 : LN CF (upd H6 fl (.lst (xs ++ [.ref xv]))) fl (ns ++ [.fl f]) := LN.more e3 lx k3 (n := .fl f) ⟨xv, rfl, hf, okf⟩ (fun h => ((h.same s5).same s6).othL e6 o7) upd_same
            have f7 := ((hf.same s5).same s6).othL e6 o7
            have g7 := ((hg.same s5).same s6).othL e6 o7
            have l7 := ((hl.same s5).same s6).othL e6 o7
            have S7 := Same.other S6 o7 nfl
            generalize upd H6 fl (.lst (xs ++ [.ref xv])) = H7 at o7 ln7 f7 g7 l7 S7 ⊢
            repeat walk_at "rd"
            refine u_arith f7 g7 okf okg fun x' H8 s8 f8 => ?_
            repeat walk_at "rd"
            refine ⟨k, by omega, x', addM f g, ns ++ [.fl f], _, _, rfl, S7.trans s8, ln7.same s8, by rw [List.length_append]; show ns.length + 1 + k = 12; omega, f8, addM_ok okf okg, g7.same s8, l7.same s8, ?_⟩
            rw [etot, edr, if_neg (by rw [n0]; exact Bool.false_ne_true), eok, if_pos rfl]
            simp
        · rw [decide_eq_false c3]
          refine iF ?_
          repeat walk_at "rd"
          refine u_cmp nl nv fun H6 s6 => ?_
          rw [if_neg c3] at eok
          repeat walk_at "rd"
          have ln6 := (ln.same s5).same s6
          have S6 := (S5.trans s5).trans s6
          have e6 := s6 _ _ (s5 _ _ e3)
          cases ec : cmpV "le" (.fl lm) (.fl f) with
          | false =>
            rw [ec] at eok
            refine iT ?_
            repeat walk_at "rd"
            refine q _ H6 S6 ⟨fl, rfl, ?_⟩
            rw [etot, edr, if_neg (by rw [n0]; exact Bool.false_ne_true), eok, if_neg Bool.false_ne_true, List.append_nil]
            exact ln6
          | true =>
            rw [ec] at eok
            refine iF ?_
            repeat walk_at "rd"
            refine w_bm ?_
            repeat walk_at "rd"
            refine ⟨.inl ⟨rfl, xs, SqL.of e6⟩, ?_⟩
            repeat walk_at "rd"
            refine w_app e6 (by rw [lx]; exact Nat.lt_of_le_of_lt (show ns.length ≤ 12 by omega) (by decide)) ?_
            have o7 : Oth fl H6 (upd H6 fl (.lst (xs ++ [.ref xv]))) := Oth.refl.put
            have ln7 : LN CF (upd H6 fl (.lst (xs ++ [.ref xv]))) fl (ns ++ [.fl f]) := LN.more e3 lx k3 (n := .fl f) ⟨xv, rfl, hf, okf⟩ (fun h => ((h.same s5).same s6).othL e6 o7) upd_same
            have f7 := ((hf.same s5).same s6).othL e6 o7
            have g7 := ((hg.same s5).same s6).othL e6 o7
            have l7 := ((hl.same s5).same s6).othL e6 o7
            have S7 := Same.other S6 o7 nfl
            generalize upd H6 fl (.lst (xs ++ [.ref xv])) = H7 at o7 ln7 f7 g7 l7 S7 ⊢
            repeat walk_at "rd"
            refine u_arith f7 g7 okf okg fun x' H8 s8 f8 => ?_
            repeat walk_at "rd"
            refine ⟨k, by omega, x', addM f g, ns ++ [.fl f], _, _, rfl, S7.trans s8, ln7.same s8, by rw [List.length_append]; show ns.length + 1 + k = 12; omega, f8, addM_ok okf okg, g7.same s8, l7.same s8, ?_⟩
            rw [etot, edr, if_neg (by rw [n0]; exact Bool.false_ne_true), eok, if_pos rfl]
            simp
    · have hm0 : m = 0 := by
        have : ¬ ((xs.length : Nat) : Int) < 12 := c
        omega
      subst hm0
      repeat walk_at "rd"
      refine q _ H3 S5 ⟨fl, rfl, ?_⟩
      rw [etot, show frs g lm 0 f = [] from rfl, List.append_nil]
      exact ln
end
end Nu

set_option Elab.async false
set_option linter.all false
set_option maxRecDepth 100000
set_option autoImplicit false
set_option maxHeartbeats 4000000
namespace Rd
open PySem PySem.Spec PyProof.Rows L2
theorem w_iZip {K : PySem.W.Frag} {ta : TA} {σ : L2.St} {H : Hp} {R : It → Hp → Prop} (h : ta σ H fun vs H1 => ∃ a b xs ys, vs = [.ref a, .ref b] ∧ SqL K H1 a xs ∧ SqL K H1 b ys ∧ R (Itz K a b) H1) : iZip K ta σ H R := h
end Rd
namespace Nu
open PySem PySem.Spec PyProof.Rows L2 Rd
local macro_rules | `(tactic| walk_at "hp") => `(tactic| first | assumption | (refine same_get ?sm ?_; (case sm => assumption); walk_at "hp"))
local macro_rules | `(tactic| walk_at "rd") => `(tactic| first
  | with_reducible refine w_nx ?_
  | with_reducible refine w_rt ?_
  | with_reducible refine w_bk ?_
  | with_reducible refine w_ct ?_
  | with_reducible refine w_seq ?_
  | with_reducible refine w_next ?_
  | with_reducible refine w_ret ?_
  | with_reducible refine w_ifS ?_
  | with_reducible refine w_asg ?_
  | with_reducible refine w_name ?_
  | with_reducible refine w_par ?_
  | with_reducible refine w_parI ?_
  | with_reducible refine w_ii ?_
  | with_reducible refine w_i1 ?_
  | with_reducible refine w_drop ?_
  | with_reducible refine w_sFld ?_
  | ((with_reducible refine' w_var ?rdh ?_); (case rdh => exact rfl))
  | with_reducible refine w_c ?_
  | with_reducible refine w_op ?_
  | with_reducible refine w_un ?_
  | with_reducible refine w_I0 ?_
  | with_reducible refine w_U ?_
  | with_reducible refine w_bits ?_
  | with_reducible refine w_bitsI ?_
  | with_reducible refine w_tup ?_
  | with_reducible refine w_lst ?_
  | with_reducible refine w_nil ?_
  | with_reducible refine w_cons ?_
  | with_reducible refine w_fld ?_
  | with_reducible refine w_call ?_
  | with_reducible refine w_make ?_
  | with_reducible refine w_gsub ?_
  | with_reducible refine w_int1 ?_
  | with_reducible refine w_intB ?_
  | with_reducible refine w_for ?_
  | with_reducible refine w_rng1 ?_
  | with_reducible refine w_iList ?_
  | with_reducible refine w_iTup ?_
  | with_reducible refine w_makeD ?_
  | with_reducible refine w_nn ?_
  | with_reducible refine w_subB ?_
  | with_reducible refine w_meth ?_
  | with_reducible refine w_cb ?_
  | with_reducible refine w_test ?_
  | with_reducible refine w_B ?_
  | with_reducible refine w_bl ?_
  | with_reducible refine w_andV ?_
  | with_reducible refine w_orV ?_
  | with_reducible refine w_notV ?_
  | with_reducible refine w_and ?_
  | with_reducible refine w_or ?_
  | with_reducible refine w_not ?_
  | with_reducible refine w_if ?_
  | with_reducible refine w_gnil ?_
  | with_reducible refine w_gcons ?_
  | with_reducible refine iT ?_
  | with_reducible refine iF ?_
  | with_reducible refine w_eqI ?_
  | with_reducible refine w_neI ?_
  | with_reducible refine w_eqS ?_
  | with_reducible refine w_eqIS ?_
  | with_reducible refine w_eqSI ?_)

section
variable {P : Program} {w : World} {K : PySem.W.Frag} {mg : Str → Option Value} {base : Heap} {CF CP CE : Addr}
/-! ### same, of numbers -/
def spSameN (CF : Addr) : Sp := fun vs H Q _ => ∃ x y n m, vs = [x, y] ∧ NmAt CF H x n ∧ NmAt CF H y m ∧ ∀ H', Same H H' → Q (.bl (decide (ordV n m = .int 0))) H'
theorem sc_same : FnScope ["one", "other"] ["one", "other"] (defScope s_same) := ⟨rfl, rfl, rfl, by decide +kernel, rfl, by decide +kernel, by decide +kernel⟩
theorem ok_same (T : AllP K mg CF CP CE) (k_is_number : Kn P w K mg base CX0 2 "is_number" ["thing"] (spNumber K CF)) (k_order_of : Kn P w K mg base CX0 3 "order_of" ["one", "other"] (spOrder CF)) : Kn P w K mg base CX0 4 "same" ["one", "other"] (spSameN CF) := by
  refine T.x_same.kn fun f fd F => ?_
  refine F.ok sc_same (fun vs H Q E h => ?_) (fun cdv A outer s H vs Q E hr h => ?_)
  · obtain ⟨x, y, n, m, rfl, _⟩ := h
    rfl
  · obtain ⟨x, y, n, m, rfl, hn, hm, q⟩ := h
    refine ⟨_, (pss_cons (ps_if (PW.pt (pw_and (pt_val (pk k_is_number hr (pa_cons (pv 0) pa_nil))) (pw_and1 (pt_val (pk k_is_number hr (pa_cons (pv 1) pa_nil)))))) (pss_one (ps_ret (pe_cmpR op_eq (pk k_order_of hr (pa_cons (pv 0) (pa_cons (pv 1) pa_nil))) pe_int (nomark _)))) pss_nil)
      (pss_cons (ps_if (PW.pt (pw_or (pt_val (pk k_is_number hr (pa_cons (pv 0) pa_nil))) (pw_or1 (pt_val (pk k_is_number hr (pa_cons (pv 1) pa_nil)))))) (pss_one (ps_ret pe_bl)) pss_nil)
      (pss_cons (ps_if (PW.pt (pw_or (pt_cmpR op_ne (pe_callB call_isi (by rfl) T.b_isinstance boot_isinstance (pa_cons (pv 0) (pa_cons (pe_bltn (by rfl) T.b_bool boot_bool (rty _)) pa_nil))) (pe_callB call_isi (by rfl) T.b_isinstance boot_isinstance (pa_cons (pv 1) (pa_cons (pe_bltn (by rfl) T.b_bool boot_bool (rty _)) pa_nil))) (nomark _)) (pw_or1 (pt_cmpR op_ne (pe_callB call_isi (by rfl) T.b_isinstance boot_isinstance (pa_cons (pv 0) (pa_cons (pe_bltn (by rfl) T.b_str boot_str (rty _)) pa_nil))) (pe_callB call_isi (by rfl) T.b_isinstance boot_isinstance (pa_cons (pv 1) (pa_cons (pe_bltn (by rfl) T.b_str boot_str (rty _)) pa_nil))) (nomark _))))) (pss_one (ps_ret pe_bl)) pss_nil)
      (pss_one (ps_ret (pe_cmpR op_eq (pv 0) (pv 1) (nomark _))))))), ?_⟩
    repeat walk_at "rd"
    refine u_num T (.num hn) ?_
    repeat walk_at "rd"
    refine iT ?_
    repeat walk_at "rd"
    refine u_num T (.num hm) ?_
    repeat walk_at "rd"
    refine iT ?_
    repeat walk_at "rd"
    refine u_order hn hm fun H1 s1 => ?_
    repeat walk_at "rd"
    refine w_eq (by rcases ordV_cases n m with e | ⟨g, e⟩ <;> rw [e] <;> rfl) ?_
    exact q H1 s1
/-! ### alike -/
def goodO (o : Out) : Prop := match o with
  | .err _ => True
  | .vals ns => ∀ n ∈ ns, place n ≠ none
def spAlike (CF : Addr) : Sp := fun vs H Q _ => ∃ t d o, vs = [t, d] ∧ OutAt CF H t o ∧ OutAt CF H d o ∧ goodO o ∧ ∀ H', Same H H' → Q (.bl true) H'
theorem ord_self {n : Nm} (h : place n ≠ none) : ordV n n = .int 0 := by
  unfold ordV
  cases e : place n with
  | none => exact absurd e h
  | some a =>
    show V.int (sgnV (gap a a)) = _
    have : gap a a = 0 := by unfold gap; omega
    rw [this]
    rfl
theorem sc_law_is_alike : FnScope ["told", "due", "one", "other"] ["told", "due"] (defScope s_law_is_alike) := ⟨rfl, rfl, rfl, by decide +kernel, rfl, by decide +kernel, by decide +kernel⟩
theorem ok_alike (T : AllP K mg CF CP CE) (k_same : Kn P w K mg base CX0 4 "same" ["one", "other"] (spSameN CF)) : Kn P w K mg base CX0 5 "_law_is_alike" ["told", "due"] (spAlike CF) := by
  refine T.x_alike.kn fun f fd F => ?_
  refine F.ok sc_law_is_alike (fun vs H Q E h => ?_) (fun cdv A outer s H vs Q E hr h => ?_)
  · obtain ⟨t, d, o, rfl, _⟩ := h
    rfl
  · obtain ⟨t, d, o, rfl, ht, hd, go, q⟩ := h
    refine ⟨_, (pss_cons (ps_if (PW.pt (pw_or (pt_val (pe_callB call_isi (by rfl) T.b_isinstance boot_isinstance (pa_cons (pv 0) (pa_cons (pe_bltn (by rfl) T.b_str boot_str (rty _)) pa_nil)))) (pw_or1 (pt_val (pe_callB call_isi (by rfl) T.b_isinstance boot_isinstance (pa_cons (pv 1) (pa_cons (pe_bltn (by rfl) T.b_str boot_str (rty _)) pa_nil))))))) (pss_one (ps_ret (pe_and (pe_callB call_isi (by rfl) T.b_isinstance boot_isinstance (pa_cons (pv 0) (pa_cons (pe_bltn (by rfl) T.b_str boot_str (rty _)) pa_nil))) (pe_one (pe_cmpR op_eq (pv 0) (pv 1) (nomark _)))))) pss_nil)
      (pss_cons (ps_if (pt_cmpR op_ne (pe_callB call_len_seq (by rfl) T.b_len boot_len (pa_cons (pv 0) pa_nil)) (pe_callB call_len_seq (by rfl) T.b_len boot_len (pa_cons (pv 1) pa_nil)) (nomark _)) (pss_one (ps_ret pe_bl)) pss_nil)
      (pss_cons (ps_for PassesOwn.never rfl (pi_zip (by rfl) T.b_zip (pa_cons (pv 0) (pa_cons (pv 1) pa_nil))) (pg_tup (by rfl) (pgs_cons (pg_name (i := 2) sc_law_is_alike.nd rfl (Or.inl rfl)) (pgs_cons (pg_name (i := 3) sc_law_is_alike.nd rfl (Or.inl rfl)) pgs_nil)))
      (pss_one (ps_if (PW.pt (pw_or (pt_cmpR op_ne (pe_callB call_isi (by rfl) T.b_isinstance boot_isinstance (pa_cons (pv 2) (pa_cons (pg "Float" T.g_Float (rref _)) pa_nil))) (pe_callB call_isi (by rfl) T.b_isinstance boot_isinstance (pa_cons (pv 3) (pa_cons (pg "Float" T.g_Float (rref _)) pa_nil))) (nomark _)) (pw_or1 (pt_not (pt_val (pk k_same hr (pa_cons (pv 2) (pa_cons (pv 3) pa_nil)))))))) (pss_one (ps_ret pe_bl)) pss_nil)))
      (pss_one (ps_ret pe_bl))))), ?_⟩
    cases o with
    | err m =>
      obtain rfl : t = .str m := ht
      obtain rfl : d = .str m := hd
      obtain ⟨ty, hty, i1, i2, i3, i4⟩ := says_str T.toAll (H := H) (x := m)
      repeat walk_at "rd"
      refine w_isi (.ty "str") hty i3 ?_
      repeat walk_at "rd"
      refine w_isi (.ty "str") hty i3 ?_
      repeat walk_at "rd"
      rw [decide_eq_true rfl]
      exact q H (Same.refl H)
    | vals ns =>
      obtain ⟨p, rfl, xs, ex, lx, kx⟩ := ht
      obtain ⟨r, rfl, ys, ey, ly, ky⟩ := hd
      have tx : TyX K H (.ref p) (.type "list") := .base (.lst ex)
      have ty : TyX K H (.ref r) (.type "list") := .base (.lst ey)
      repeat walk_at "rd"
      refine w_isi (.ty "str") tx (kit_ty (r := false) (by decide +kernel)) ?_
      repeat walk_at "rd"
      refine w_isi (.ty "str") ty (kit_ty (r := false) (by decide +kernel)) ?_
      repeat walk_at "rd"
      refine w_lenL ex ?_
      repeat walk_at "rd"
      refine w_lenL ey ?_
      refine w_neI ?_
      repeat walk_at "rd"
      refine iN (fun z => absurd (by rw [lx, ly]) z) (fun _ => ?_)
      repeat walk_at "rd"
      refine w_iZip ?_
      repeat walk_at "rd"
      refine ⟨p, r, xs, ys, rfl, SqL.of ex, SqL.of ey, ?_⟩
      refine RZ.for_zipL (xs := xs) (ys := ys) (by rw [lx, ly]) (fun _ σ' H' => ∃ a b, σ' = [some (.ref p), some (.ref r), a, b] ∧ Same H H') ⟨none, none, rfl, Same.refl _⟩ (fun i σ' H' ⟨_, _, _, S⟩ => ⟨SqL.of (S _ _ ex), SqL.of (S _ _ ey)⟩) ?_ ?_
      · rintro i x y Tt σ' H' hx hy ⟨a, b, rfl, S⟩ nT
        have hin : i < ns.length := by
          have := (List.getElem?_eq_some_iff.mp hx).1
          omega
        have hn : ns[i]? = some ns[i] := by simp [hin]
        have gx := go _ (List.getElem_mem hin)
        have nx := (kx i x _ hx hn)
        have ny := (ky i y _ hy hn)
        generalize ns[i] = n at gx nx ny hn
        have S2 := S.trans (same_upd (o := .tup [x, y]) nT)
        have e2 := upd_same (H := H') (a := Tt) (o := .tup [x, y])
        generalize upd H' Tt (.tup [x, y]) = H2 at S2 e2 ⊢
        have nx := nx.same S2
        have ny := ny.same S2
        obtain ⟨t1, ty1, i1, i2, i3, i4⟩ := (Kd8.num nx).says (CP := CP) (CE := CE) T |>.1
        obtain ⟨t2, ty2, j1, j2, j3, j4⟩ := (Kd8.num ny).says (CP := CP) (CE := CE) T |>.1
        refine w_gtup e2 rfl ?_
        repeat walk_at "rd"
        refine w_isi (.own CF) ty1 i4 ?_
        repeat walk_at "rd"
        refine w_isi (.own CF) ty2 j4 ?_
        refine w_ne rfl ?_
        repeat walk_at "rd"
        refine iN (fun z => absurd rfl z) (fun _ => ?_)
        repeat walk_at "rd"
        refine ⟨x, y, n, n, rfl, nx, ny, fun H3 s3 => ?_⟩
        rw [ord_self gx, decide_eq_true rfl]
        repeat walk_at "rd"
        exact ⟨_, _, rfl, S2.trans s3⟩
      · rintro σ' H' ⟨a, b, rfl, S⟩
        repeat walk_at "rd"
        exact q H' S
end
end Nu

set_option Elab.async false
set_option linter.all false
set_option maxRecDepth 100000
set_option autoImplicit false
set_option maxHeartbeats 4000000
namespace Nu
open PySem PySem.Spec PyProof.Rows L2 Rd
local macro_rules | `(tactic| walk_at "hp") => `(tactic| first | assumption | (refine same_get ?sm ?_; (case sm => assumption); walk_at "hp"))
local macro_rules | `(tactic| walk_at "rd") => `(tactic| first
  | with_reducible refine w_nx ?_
  | with_reducible refine w_rt ?_
  | with_reducible refine w_bk ?_
  | with_reducible refine w_ct ?_
  | with_reducible refine w_seq ?_
  | with_reducible refine w_next ?_
  | with_reducible refine w_ret ?_
  | with_reducible refine w_ifS ?_
  | with_reducible refine w_asg ?_
  | with_reducible refine w_name ?_
  | with_reducible refine w_par ?_
  | with_reducible refine w_parI ?_
  | with_reducible refine w_ii ?_
  | with_reducible refine w_i1 ?_
  | with_reducible refine w_drop ?_
  | with_reducible refine w_sFld ?_
  | ((with_reducible refine' w_var ?rdh ?_); (case rdh => exact rfl))
  | with_reducible refine w_c ?_
  | with_reducible refine w_op ?_
  | with_reducible refine w_un ?_
  | with_reducible refine w_I0 ?_
  | with_reducible refine w_U ?_
  | with_reducible refine w_bits ?_
  | with_reducible refine w_bitsI ?_
  | with_reducible refine w_tup ?_
  | with_reducible refine w_lst ?_
  | with_reducible refine w_nil ?_
  | with_reducible refine w_cons ?_
  | with_reducible refine w_fld ?_
  | with_reducible refine w_call ?_
  | with_reducible refine w_make ?_
  | with_reducible refine w_gsub ?_
  | with_reducible refine w_int1 ?_
  | with_reducible refine w_intB ?_
  | with_reducible refine w_for ?_
  | with_reducible refine w_rng1 ?_
  | with_reducible refine w_iList ?_
  | with_reducible refine w_iTup ?_
  | with_reducible refine w_makeD ?_
  | with_reducible refine w_nn ?_
  | with_reducible refine w_subB ?_
  | with_reducible refine w_meth ?_
  | with_reducible refine w_cb ?_
  | with_reducible refine w_test ?_
  | with_reducible refine w_B ?_
  | with_reducible refine w_bl ?_
  | with_reducible refine w_andV ?_
  | with_reducible refine w_orV ?_
  | with_reducible refine w_notV ?_
  | with_reducible refine w_and ?_
  | with_reducible refine w_or ?_
  | with_reducible refine w_not ?_
  | with_reducible refine w_if ?_
  | with_reducible refine w_gnil ?_
  | with_reducible refine w_gcons ?_
  | with_reducible refine iT ?_
  | with_reducible refine iF ?_
  | with_reducible refine w_eqI ?_
  | with_reducible refine w_neI ?_
  | with_reducible refine w_eqS ?_
  | with_reducible refine w_eqIS ?_
  | with_reducible refine w_eqSI ?_)

theorem dr_good {s : Int} {l : Nm} : ∀ (n : Nat) (v : Int), ∀ m ∈ dr s l n v, place m ≠ none
  | 0, _, m, h => nomatch h
  | n + 1, v, m, h => by
    rw [show dr s l (n + 1) v = if okI v s l = true then .int v :: dr s l n (v + s) else [] from rfl] at h
    split at h
    · rcases List.mem_cons.1 h with rfl | h
      · exact fun z => nomatch z
      · exact dr_good n _ m h
    · exact nomatch h
theorem frs_good {g l : Fl} : ∀ (n : Nat) (f : Fl), ∀ m ∈ frs g l n f, place m ≠ none
  | 0, _, m, h => nomatch h
  | n + 1, f, m, h => by
    rw [show frs g l (n + 1) f = if (isNan f || (isNan l || isNan g)) = true then [] else if condF f g l = true then .fl f :: frs g l n (addM f g) else [] from rfl] at h
    split at h
    · exact nomatch h
    · rename_i c
      split at h
      · rcases List.mem_cons.1 h with rfl | h
        · intro z
          apply c
          cases f with
          | nan => rfl
          | inf s => cases z
          | fin s t p => cases z
        · exact frs_good n _ m h
      · exact nomatch h
theorem due_good (nx ny nz : Option Nm) : goodO (dueOf nx ny nz) := by
  have gi : ∀ a s, goodO (dueI a s ny) := by
    intro a s
    unfold dueI
    split
    · trivial
    · cases ny with
      | none => trivial
      | some l => exact dr_good 12 a
  have gf : goodO (dueF nx ny nz) := by
    unfold dueF
    cases ny with
    | none => trivial
    | some l =>
      cases nz with
      | none => trivial
      | some s =>
        cases nx with
        | none => trivial
        | some a =>
          show goodO (dueG _ _ _)
          unfold dueG
          split
          · trivial
          · exact frs_good 12 _
  by_cases c : (isIn nx && isIn nz) = true
  · match nx, nz, c with
    | some (.int a), some (.int s), _ => exact gi a s
    | none, _, c => exact absurd c (by simp [isIn])
    | some (.fl _), _, c => exact absurd c (by simp [isIn])
    | some (.int _), none, c => exact absurd c (by simp [isIn])
    | some (.int _), some (.fl _), c => exact absurd c (by simp [isIn])
  · have c : (isIn nx && isIn nz) = false := by
      cases h : (isIn nx && isIn nz) with
      | false => rfl
      | true => exact absurd h c
    rw [dueOf_other c]
    exact gf
section
variable {P : Program} {w : World} {K : PySem.W.Frag} {mg : Str → Option Value} {base : Heap} {CF CP CE : Addr}
theorem u_flt {p : Addr} {n : Nat} {H : Hp} {Q : VK} {E : XK} (hw : Well n H p) (hn : n < 700000) (q : ∀ x f H', Oth p H H' → Well (n + 50) H' p → FlAt CF H' x f → f.ok → Q (.ref x) H') : spFlt CF ([V.ref p] ++ []) H Q E := ⟨p, n, rfl, hw, hn, q⟩
def spInt : Sp := fun vs H Q _ => ∃ (p : Addr) (n : Nat), vs = [.ref p] ∧ Well n H p ∧ n < 600000 ∧ ∀ i H', Oth p H H' → Well (n + 30) H' p → -9223372036854775808 ≤ i → i ≤ 9223372036854775807 → Q (.int i) H'
theorem u_int {p : Addr} {n : Nat} {H : Hp} {Q : VK} {E : XK} (hw : Well n H p) (hn : n < 600000) (q : ∀ i H', Oth p H H' → Well (n + 30) H' p → -9223372036854775808 ≤ i → i ≤ 9223372036854775807 → Q (.int i) H') : spInt ([V.ref p] ++ []) H Q E := ⟨p, n, rfl, hw, hn, q⟩
theorem sc_law_int : FnScope ["well", "some"] ["well"] (defScope s_law_int) := ⟨rfl, rfl, rfl, by decide +kernel, rfl, by decide +kernel, by decide +kernel⟩
theorem ok_int (T : AllP K mg CF CP CE) (k_law_draw : Kn P w K mg base CX0 1 "_law_draw" ["well", "many"] spDraw) (k_law_one : Kn P w K mg base CX0 2 "_law_one" ["well", "some"] spOne) (k_law_great : Kn P w K mg base CX0 2 "_law_great" ["well", "bits"] spGreat) :
    Kn P w K mg base CX0 3 "_law_int" ["well"] spInt := by
  refine T.x_int.kn fun f fd F => ?_
  refine F.ok sc_law_int (fun vs H Q E h => ?_) (fun cdv A outer s H vs Q E hr h => ?_)
  · obtain ⟨p, n, rfl, _⟩ := h
    rfl
  · obtain ⟨p, n, rfl, hw, hn, q⟩ := h
    refine ⟨_, (pss_cons (ps_set (i := 1) sc_law_int.nd rfl (Or.inl rfl) (pe_lst (pa_cons (pe_op op_sub (pk k_law_draw hr (pa_cons (pv 0) (pa_cons pe_int pa_nil))) pe_int) (pa_cons (pe_op op_sub (pk k_law_great hr (pa_cons (pv 0) (pa_cons pe_int pa_nil))) (pe_op op_shlW pe_int pe_int)) (pa_cons (pe_op op_add (pe_un un_neg (pe_op op_shlW pe_int pe_int)) (pk k_law_draw hr (pa_cons (pv 0) (pa_cons pe_int pa_nil)))) pa_nil)))))
      (pss_one (ps_ret (pk k_law_one hr (pa_cons (pv 0) (pa_cons (pe_op op_cat (pv 1) (pe_lst (pa_cons (pe_op op_sub (pe_op op_sub (pe_op op_shlW pe_int pe_int) pe_int) (pk k_law_draw hr (pa_cons (pv 0) (pa_cons pe_int pa_nil)))) (pa_cons (pe_op op_sub (pk k_law_draw hr (pa_cons (pv 0) (pa_cons pe_int pa_nil))) pe_int) pa_nil)))) pa_nil)))))), ?_⟩
    have e63 : (1 : Int) * 2 ^ (63 : Int).toNat = 9223372036854775808 := by decide
    repeat walk_at "rd"
    refine u_draw hw (by omega) (by decide) (by decide) fun t1 H1 o1 w1 t1l t1u => ?_
    repeat walk_at "rd"
    refine u_great w1 (by omega) (by decide) (by decide) fun t2 H2 o2 w2 t2l t2u => ?_
    have t2u : t2 < 18446744073709551616 := t2u
    repeat walk_at "rd"
    refine w_I (cshl (i := 1) (j := 63) (by decide) (by decide) (by decide)) ?_
    rw [e63]
    repeat walk_at "rd"
    refine w_I (cshl (i := 1) (j := 63) (by decide) (by decide) (by decide)) ?_
    rw [e63]
    repeat walk_at "rd"
    refine u_draw w2 (by omega) (by decide) (by decide) fun t3 H3 o3 w3 t3l t3u => ?_
    repeat walk_at "rd"
    refine w_lst3 fun a4 H4 s4 n4 h4 => ?_
    repeat walk_at "rd"
    have ne4 := w3.ne n4
    have o4 := ((o1.trans o2).trans o3).same s4
    refine w_I (cshl (i := 1) (j := 63) (by decide) (by decide) (by decide)) ?_
    rw [e63]
    repeat walk_at "rd"
    refine u_draw (w3.same s4) (by omega) (by decide) (by decide) fun t5 H5 o5 w5 t5l t5u => ?_
    repeat walk_at "rd"
    refine u_draw w5 (by omega) (by decide) (by decide) fun t6 H6 o6 w6 t6l t6u => ?_
    have k6 : H6 a4 = _ := o6 _ _ ne4 (o5 _ _ ne4 h4)
    have o6 := (o4.trans o5).trans o6
    repeat walk_at "rd"
    refine w_lst2 fun a7 H7 s7 n7 h7 => ?_
    repeat walk_at "rd"
    refine w_cat (s7 _ _ k6) h7 (by show 3 + 2 ≤ sizeLine; decide) fun a8 H8 s8 n8 h8 => ?_
    repeat walk_at "rd"
    have w8 := (w6.same s7).same s8
    refine u_one w8 (by omega) h8 ((w6.same s7).ne n8) (by show 0 < 5; decide) (by show 5 ≤ 1000; decide) fun v H9 hv o9 w9 => ?_
    obtain ⟨i, rfl, l1, l2⟩ : ∃ i, v = .int i ∧ -9223372036854775808 ≤ i ∧ i ≤ 9223372036854775807 := by
      simp only [List.cons_append, List.nil_append, List.mem_cons, List.not_mem_nil, or_false] at hv
      rcases hv with rfl | rfl | rfl | rfl | rfl <;> exact ⟨_, rfl, by omega, by omega⟩
    exact q i H9 (((o6.same s7).same s8).trans o9) (w9.mono (by omega)) l1 l2
def spNumb (CF : Addr) : Sp := fun vs H Q _ => ∃ (p : Addr) (n : Nat), vs = [.ref p] ∧ Well n H p ∧ n < 500000 ∧ ∀ x m H', Oth p H H' → Well (n + 200) H' p → NmAt CF H' x m → i64 m → Q x H'
theorem u_numb {p : Addr} {n : Nat} {H : Hp} {Q : VK} {E : XK} (hw : Well n H p) (hn : n < 500000) (q : ∀ x m H', Oth p H H' → Well (n + 200) H' p → NmAt CF H' x m → i64 m → Q x H') : spNumb CF ([V.ref p] ++ []) H Q E := ⟨p, n, rfl, hw, hn, q⟩
theorem Well.here {n : Nat} {H : Hp} {p : Addr} (h : Well n H p) : ∃ xs, H p = some (.lst xs) := let ⟨_, _, _, e, _⟩ := h; ⟨_, e⟩
theorem NmAt.othW {p : Addr} {H H' : Hp} {x : V} {k : Nat} {m : Nm} (h : NmAt CF H x m) (o : Oth p H H') (hw : Well k H p) : NmAt CF H' x m := let ⟨_, e⟩ := hw.here; h.othL e o
theorem sc_law_number : FnScope ["well", "small"] ["well"] (defScope s_law_number) := ⟨rfl, rfl, rfl, by decide +kernel, rfl, by decide +kernel, by decide +kernel⟩
theorem ok_number (T : AllP K mg CF CP CE) (k_law_draw : Kn P w K mg base CX0 1 "_law_draw" ["well", "many"] spDraw) (k_law_one : Kn P w K mg base CX0 2 "_law_one" ["well", "some"] spOne) (k_law_int : Kn P w K mg base CX0 3 "_law_int" ["well"] spInt)
    (k_law_float : Kn P w K mg base CX0 4 "_law_float" ["well"] (spFlt CF)) (k_Float_init : KnC P w K mg base CX0 2 "Float" CF ["self", "sign", "top", "power"] (spInit CF)) : Kn P w K mg base CX0 5 "_law_number" ["well"] (spNumb CF) := by
  refine T.x_number.kn fun f fd F => ?_
  refine F.ok sc_law_number (fun vs H Q E h => ?_) (fun cdv A outer s H vs Q E hr h => ?_)
  · obtain ⟨p, n, rfl, _⟩ := h
    rfl
  · obtain ⟨p, n, rfl, hw, hn, q⟩ := h
    refine ⟨_, (pss_cons (ps_set (i := 1) sc_law_number.nd rfl (Or.inl rfl) (pkC k_Float_init hr (pa_cons (pk k_law_one hr (pa_cons (pv 0) (pa_cons (pe_lst (pa_cons pe_int (pa_cons (pe_un un_neg pe_int) pa_nil))) pa_nil))) (pa_cons (pk k_law_draw hr (pa_cons (pv 0) (pa_cons pe_int pa_nil))) (pa_cons (pk k_law_one hr (pa_cons (pv 0) (pa_cons (pe_lst (pa_cons pe_int (pa_cons (pe_un un_neg pe_int) (pa_cons (pe_un un_neg pe_int) pa_nil)))) pa_nil))) pa_nil)))))
      (pss_one (ps_ret (pk k_law_one hr (pa_cons (pv 0) (pa_cons (pe_lst (pa_cons (pk k_law_int hr (pa_cons (pv 0) pa_nil)) (pa_cons (pk k_law_int hr (pa_cons (pv 0) pa_nil)) (pa_cons (pv 1) (pa_cons (pv 1) (pa_cons (pk k_law_float hr (pa_cons (pv 0) pa_nil)) pa_nil)))))) pa_nil)))))), ?_⟩
    repeat walk_at "rd"
    refine w_lst2 fun a1 H1 s1 n1 h1 => ?_
    repeat walk_at "rd"
    refine u_one (hw.same s1) (by omega) h1 (hw.ne n1) (by decide) (by decide) fun v H2 hv o2 w2 => ?_
    have o2 := (Rd.Same.oth (x := p) s1).trans o2
    obtain ⟨sg, rfl, hs⟩ : ∃ sg, v = .int sg ∧ (sg = 1 ∨ sg = -1) := by
      simp only [List.mem_cons, List.not_mem_nil, or_false] at hv
      rcases hv with rfl | rfl
      · exact ⟨_, rfl, .inl rfl⟩
      · exact ⟨_, rfl, .inr rfl⟩
    repeat walk_at "rd"
    refine u_draw w2 (by omega) (by decide) (by decide) fun t H3 o3 w3 tl tu => ?_
    repeat walk_at "rd"
    refine w_lst3 fun a4 H4 s4 n4 h4 => ?_
    repeat walk_at "rd"
    refine u_one (w3.same s4) (by omega) h4 (w3.ne n4) (by decide) (by decide) fun v H5 hv o5 w5 => ?_
    have o5 := ((o2.trans o3).same s4).trans o5
    obtain ⟨pw, rfl, hp⟩ : ∃ pw, v = .int pw ∧ -3 ≤ pw ∧ pw ≤ 0 := by
      simp only [List.mem_cons, List.not_mem_nil, or_false] at hv
      rcases hv with rfl | rfl | rfl <;> exact ⟨_, rfl, by decide, by decide⟩
    have fa : FinA sg t pw := ⟨hs, tl, by omega, by omega, by omega⟩
    repeat walk_at "rd"
    refine u_Float fa.arg fun x6 H6 s6 n6 h6 => ?_
    have w6 := w5.same s6
    have o6 := o5.same s6
    have k6 : NmAt CF H6 (.ref x6) (.fl (.fin sg (red t pw).1 (red t pw).2)) := ⟨x6, rfl, h6, fa.arg.ok⟩
    repeat walk_at "rd"
    refine u_int w6 (by omega) fun i7 H7 o7 w7 l7 u7 => ?_
    have k7 := k6.othW o7 w6
    repeat walk_at "rd"
    refine u_int w7 (by omega) fun i8 H8 o8 w8 l8 u8 => ?_
    have k8 := k7.othW o8 w7
    repeat walk_at "rd"
    refine u_flt w8 (by omega) fun x9 f9 H9 o9 w9 h9 okf => ?_
    have k9 := k8.othW o9 w8
    have o9 := ((o6.trans o7).trans o8).trans o9
    repeat walk_at "rd"
    refine w_lstI (by show 5 ≤ 1000; decide) fun a10 H10 s10 n10 h10 => ?_
    repeat walk_at "rd"
    refine u_one (w9.same s10) (by omega) h10 (w9.ne n10) (by show 0 < 5; decide) (by show 5 ≤ 1000; decide) fun v H11 hv o11 w11 => ?_
    have o12 := (o9.same s10).trans o11
    have w12 : Well (n + 200) H11 p := w11.mono (by omega)
    simp only [List.mem_cons, List.not_mem_nil, or_false] at hv
    rcases hv with rfl | rfl | rfl | rfl | rfl
    · exact q _ (.int i7) H11 o12 w12 ⟨rfl, bits64 l7 (by omega)⟩ ⟨l7, u7⟩
    · exact q _ (.int i8) H11 o12 w12 ⟨rfl, bits64 l8 (by omega)⟩ ⟨l8, u8⟩
    · exact q _ _ H11 o12 w12 ((k9.same s10).othW o11 (w9.same s10)) trivial
    · exact q _ _ H11 o12 w12 ((k9.same s10).othW o11 (w9.same s10)) trivial
    · exact q _ (.fl f9) H11 o12 w12 ((show NmAt CF H9 (.ref x9) (.fl f9) from ⟨x9, rfl, h9, okf⟩).same s10 |>.othW o11 (w9.same s10)) trivial
end
end Nu

set_option Elab.async false
set_option linter.all false
set_option maxRecDepth 100000
set_option autoImplicit false
set_option maxHeartbeats 4000000
namespace Nu
open PySem PySem.Spec PyProof.Rows L2 Rd
local macro_rules | `(tactic| walk_at "hp") => `(tactic| first | assumption | (refine same_get ?sm ?_; (case sm => assumption); walk_at "hp"))
local macro_rules | `(tactic| walk_at "rd") => `(tactic| first
  | with_reducible refine w_nx ?_
  | with_reducible refine w_rt ?_
  | with_reducible refine w_bk ?_
  | with_reducible refine w_ct ?_
  | with_reducible refine w_seq ?_
  | with_reducible refine w_next ?_
  | with_reducible refine w_ret ?_
  | with_reducible refine w_ifS ?_
  | with_reducible refine w_asg ?_
  | with_reducible refine w_name ?_
  | with_reducible refine w_par ?_
  | with_reducible refine w_parI ?_
  | with_reducible refine w_ii ?_
  | with_reducible refine w_i1 ?_
  | with_reducible refine w_drop ?_
  | with_reducible refine w_sFld ?_
  | ((with_reducible refine' w_var ?rdh ?_); (case rdh => exact rfl))
  | with_reducible refine w_c ?_
  | with_reducible refine w_op ?_
  | with_reducible refine w_un ?_
  | with_reducible refine w_I0 ?_
  | with_reducible refine w_U ?_
  | with_reducible refine w_bits ?_
  | with_reducible refine w_bitsI ?_
  | with_reducible refine w_tup ?_
  | with_reducible refine w_lst ?_
  | with_reducible refine w_nil ?_
  | with_reducible refine w_cons ?_
  | with_reducible refine w_fld ?_
  | with_reducible refine w_call ?_
  | with_reducible refine w_make ?_
  | with_reducible refine w_gsub ?_
  | with_reducible refine w_int1 ?_
  | with_reducible refine w_intB ?_
  | with_reducible refine w_for ?_
  | with_reducible refine w_rng1 ?_
  | with_reducible refine w_iList ?_
  | with_reducible refine w_iTup ?_
  | with_reducible refine w_makeD ?_
  | with_reducible refine w_nn ?_
  | with_reducible refine w_subB ?_
  | with_reducible refine w_meth ?_
  | with_reducible refine w_cb ?_
  | with_reducible refine w_test ?_
  | with_reducible refine w_B ?_
  | with_reducible refine w_bl ?_
  | with_reducible refine w_andV ?_
  | with_reducible refine w_orV ?_
  | with_reducible refine w_notV ?_
  | with_reducible refine w_and ?_
  | with_reducible refine w_or ?_
  | with_reducible refine w_not ?_
  | with_reducible refine w_if ?_
  | with_reducible refine w_gnil ?_
  | with_reducible refine w_gcons ?_
  | with_reducible refine iT ?_
  | with_reducible refine iF ?_
  | with_reducible refine w_eqI ?_
  | with_reducible refine w_neI ?_
  | with_reducible refine w_eqS ?_
  | with_reducible refine w_eqIS ?_
  | with_reducible refine w_eqSI ?_)

section
variable {P : Program} {w : World} {K : PySem.W.Frag} {mg : Str → Option Value} {base : Heap} {CF CP CE : Addr}
theorem u_said {x y z : V} {nx ny nz : Option Nm} {H : Hp} {Q : VK} {E : XK} (hx : Kd8 K CF H x nx) (hy : Kd8 K CF H y ny) (hz : Kd8 K CF H z nz) (h64 : ∀ n, nx = some n → i64 n) (q : ∀ v H', Same H H' → OutAt CF H' v (dueOf nx ny nz) → Q v H') : spSaid K CF ([x, y, z] ++ []) H Q E := ⟨x, y, z, nx, ny, nz, rfl, hx, hy, hz, h64, q⟩
def spCount : Sp := fun vs H Q _ => ∃ (p : Addr) (n : Nat), vs = [.ref p] ∧ Well n H p ∧ n < 500000 ∧ ∀ H', Oth p H H' → Q (.bl true) H'
theorem sc_law_count_right : FnScope ["well", "many", "step", "start", "limit", "far"] ["well"] (defScope s_law_count_right) := ⟨rfl, rfl, rfl, by decide +kernel, rfl, by decide +kernel, by decide +kernel⟩
theorem ok_count (T : AllP K mg CF CP CE) (k_law_draw : Kn P w K mg base CX0 1 "_law_draw" ["well", "many"] spDraw) (k_law_one : Kn P w K mg base CX0 2 "_law_one" ["well", "some"] spOne) (k_Float_init : KnC P w K mg base CX0 2 "Float" CF ["self", "sign", "top", "power"] (spInit CF))
    (k_law_said : Kn P w K mg base CX0 10 "_law_said" ["start", "limit", "step"] (spSaid K CF)) (k_law_due : Kn P w K mg base CX0 9 "_law_due" ["start", "limit", "step"] (spSaid K CF)) (k_law_is_alike : Kn P w K mg base CX0 5 "_law_is_alike" ["told", "due"] (spAlike CF)) :
    Kn P w K mg base CX0 11 "_law_count_right" ["well"] spCount := by
  refine T.x_count.kn fun f fd F => ?_
  refine F.ok sc_law_count_right (fun vs H Q E h => ?_) (fun cdv A outer s H vs Q E hr h => ?_)
  · obtain ⟨p, n, rfl, _⟩ := h
    rfl
  · obtain ⟨p, n, rfl, hw, hn, q⟩ := h
    refine ⟨_, (pss_cons (ps_par (by rfl) sc_law_count_right.nd (i := 1) (j := 2) rfl rfl (by decide) rfl rfl (pa_cons (pk k_law_draw hr (pa_cons (pv 0) (pa_cons pe_int pa_nil))) (pa_cons (pk k_law_one hr (pa_cons (pv 0) (pa_cons (pe_lst (pa_cons pe_int (pa_cons (pe_un un_neg pe_int) (pa_cons pe_int (pa_cons (pe_un un_neg pe_int) (pa_cons (pe_op op_shlW pe_int pe_int) (pa_cons (pe_un un_neg (pe_op op_shlW pe_int pe_int)) pa_nil))))))) pa_nil))) pa_nil)) (by rfl))
      (pss_cons (ps_set (i := 3) sc_law_count_right.nd rfl (Or.inl rfl) (pk k_law_one hr (pa_cons (pv 0) (pa_cons (pe_lst (pa_cons (pe_op op_sub (pe_op op_sub (pe_op op_shlW pe_int pe_int) pe_int) (pk k_law_draw hr (pa_cons (pv 0) (pa_cons pe_int pa_nil)))) (pa_cons (pe_op op_add (pe_un un_neg (pe_op op_shlW pe_int pe_int)) (pk k_law_draw hr (pa_cons (pv 0) (pa_cons pe_int pa_nil)))) (pa_cons (pk k_law_draw hr (pa_cons (pv 0) (pa_cons pe_int pa_nil))) pa_nil)))) pa_nil))))
      (pss_cons (ps_set (i := 4) sc_law_count_right.nd rfl (Or.inl rfl) (pe_callB (call_min2 rfl) (by rfl) T.b_min boot_min (pa_cons (pe_op op_sub (pe_op op_shlW pe_int pe_int) pe_int) (pa_cons (pe_callB (call_max2 rfl) (by rfl) T.b_max boot_max (pa_cons (pe_un un_neg (pe_op op_shlW pe_int pe_int)) (pa_cons (pe_op op_add (pv 3) (pe_op op_mulX (pv 2) (pv 1))) pa_nil))) pa_nil))))
      (pss_cons (ps_set (i := 5) sc_law_count_right.nd rfl (Or.inl rfl) (pk k_law_one hr (pa_cons (pv 0) (pa_cons (pe_lst (pa_cons (pv 4) (pa_cons (pe_ifExp (pt_cmpR op_gt (pv 2) pe_int (nomark _)) (pkC k_Float_init hr (pa_cons pe_int (pa_cons pe_str (pa_cons pe_int pa_nil)))) (pkC k_Float_init hr (pa_cons (pe_un un_neg pe_int) (pa_cons pe_str (pa_cons pe_int pa_nil))))) (pa_cons (pv 4) pa_nil)))) pa_nil))))
      (pss_one (ps_ret (pk k_law_is_alike hr (pa_cons (pk k_law_said hr (pa_cons (pv 3) (pa_cons (pv 5) (pa_cons (pv 2) pa_nil)))) (pa_cons (pk k_law_due hr (pa_cons (pv 3) (pa_cons (pv 5) (pa_cons (pv 2) pa_nil)))) pa_nil))))))))), ?_⟩
    have e63 : (1 : Int) * 2 ^ (63 : Int).toNat = 9223372036854775808 := by decide
    have e60 : (1 : Int) * 2 ^ (60 : Int).toNat = 1152921504606846976 := by decide
    repeat walk_at "rd"
    refine u_draw hw (by omega) (by decide) (by decide) fun mn H1 o1 w1 ml mu => ?_
    repeat walk_at "rd"
    refine w_I (cshl (i := 1) (j := 60) (by decide) (by decide) (by decide)) ?_
    rw [e60]
    repeat walk_at "rd"
    refine w_I (cshl (i := 1) (j := 60) (by decide) (by decide) (by decide)) ?_
    rw [e60]
    repeat walk_at "rd"
    refine w_lstI (by show 6 ≤ 1000; decide) fun a2 H2 s2 n2 h2 => ?_
    repeat walk_at "rd"
    refine u_one (w1.same s2) (by omega) h2 (w1.ne n2) (by decide) (by decide) fun v H3 hv o3 w3 => ?_
    have o3 := (o1.same s2).trans o3
    obtain ⟨st, rfl, sl, su⟩ : ∃ st, v = .int st ∧ -1152921504606846976 ≤ st ∧ st ≤ 1152921504606846976 := by
      simp only [List.mem_cons, List.not_mem_nil, or_false] at hv
      rcases hv with rfl | rfl | rfl | rfl | rfl | rfl <;> exact ⟨_, rfl, by decide, by decide⟩
    repeat walk_at "rd"
    refine w_I (cshl (i := 1) (j := 63) (by decide) (by decide) (by decide)) ?_
    rw [e63]
    repeat walk_at "rd"
    refine u_draw w3 (by omega) (by decide) (by decide) fun t4 H4 o4 w4 t4l t4u => ?_
    repeat walk_at "rd"
    refine w_I (cshl (i := 1) (j := 63) (by decide) (by decide) (by decide)) ?_
    rw [e63]
    repeat walk_at "rd"
    refine u_draw w4 (by omega) (by decide) (by decide) fun t5 H5 o5 w5 t5l t5u => ?_
    repeat walk_at "rd"
    refine u_draw w5 (by omega) (by decide) (by decide) fun t6 H6 o6 w6 t6l t6u => ?_
    repeat walk_at "rd"
    refine w_lst3 fun a7 H7 s7 n7 h7 => ?_
    repeat walk_at "rd"
    refine u_one (w6.same s7) (by omega) h7 (w6.ne n7) (by show 0 < 3; decide) (by show 3 ≤ 1000; decide) fun v H8 hv o8 w8 => ?_
    have o8 := ((((o3.trans o4).trans o5).trans o6).same s7).trans o8
    obtain ⟨a, rfl, al, au⟩ : ∃ a, v = .int a ∧ -9223372036854775808 ≤ a ∧ a ≤ 9223372036854775807 := by
      simp only [List.mem_cons, List.not_mem_nil, or_false] at hv
      rcases hv with rfl | rfl | rfl <;> exact ⟨_, rfl, by omega, by omega⟩
    repeat walk_at "rd"
    refine w_I (cshl (i := 1) (j := 63) (by decide) (by decide) (by decide)) ?_
    rw [e63]
    repeat walk_at "rd"
    refine w_I (cshl (i := 1) (j := 63) (by decide) (by decide) (by decide)) ?_
    rw [e63]
    repeat walk_at "rd"
    refine w_I (cmulS (i := st) (j := mn) (by omega) (by omega)) ?_
    repeat walk_at "rd"
    generalize hm1 : (if a + st * mn > -9223372036854775808 then a + st * mn else -9223372036854775808) = m1
    have b1 : -9223372036854775808 ≤ m1 := by rw [← hm1]; split <;> omega
    generalize hm2 : (if m1 < 9223372036854775808 - 1 then m1 else 9223372036854775808 - 1) = lm
    have b2 : -9223372036854775808 ≤ lm ∧ lm ≤ 9223372036854775808 := by rw [← hm2]; split <;> omega
    have fin : ∀ (far : V) (nf : Nm) (H9 : Hp), Oth p H H9 → NmAt CF H9 far nf → spSaid K CF ([.int a, far, .int st] ++ []) H9 (fun x H1 => tCons (tCall (spSaid K CF) [] E0 (tCons (tVar 3) (tCons (tVar 5) (tCons (tVar 2) tNil)))) tNil [some (.ref p), some (.int mn), some (.int st), some (.int a), some (.int lm), some far] H1 fun xs H2 => spAlike CF ((x :: xs) ++ []) H2 Q E0) E0 := by
      intro far nf H9 o9 hf
      have ha : ∀ H', Kd8 K CF H' (.int a) (some (.int a)) := fun H' => .num ⟨rfl, bits64 al (by omega)⟩
      have hs : ∀ H', Kd8 K CF H' (.int st) (some (.int st)) := fun H' => .num ⟨rfl, bits64 (by omega) (by omega)⟩
      refine u_said (ha _) (.num hf) (hs _) (fun n e => by cases e; exact ⟨al, au⟩) fun v H10 s10 k10 => ?_
      repeat walk_at "rd"
      refine u_said (ha _) (.num (hf.same s10)) (hs _) (fun n e => by cases e; exact ⟨al, au⟩) fun v2 H11 s11 k11 => ?_
      repeat walk_at "rd"
      exact ⟨v, v2, _, rfl, k10.same s11, k11, due_good _ _ _, fun H12 s12 => q H12 (((o9.same s10).same s11).same s12)⟩
    have hlm : ∀ H', NmAt CF H' (.int lm) (.int lm) := fun H' => ⟨rfl, bits64 b2.1 b2.2⟩
    repeat walk_at "rd"
    by_cases c : 0 < st
    · rw [decide_eq_true c]
      repeat walk_at "rd"
      refine u_Float (.inr (.inl ⟨rfl, rfl, .inl rfl, rfl⟩)) fun x9 H9 s9 n9 h9 => ?_
      repeat walk_at "rd"
      refine w_lst3 fun a10 H10 s10 n10 h10 => ?_
      repeat walk_at "rd"
      have w10 := (w8.same s9).same s10
      refine u_one w10 (by omega) h10 ((w8.same s9).ne n10) (by show 0 < 3; decide) (by show 3 ≤ 1000; decide) fun v H11 hv o11 w11 => ?_
      have o12 := ((o8.same s9).same s10).trans o11
      have hv : ∃ nf, NmAt CF H11 v nf := by
        simp only [List.mem_cons, List.not_mem_nil, or_false] at hv
        rcases hv with rfl | rfl | rfl
        · exact ⟨_, hlm _⟩
        · exact ⟨.fl (.inf 1), (show NmAt CF H9 (.ref x9) (.fl (.inf 1)) from ⟨x9, rfl, h9, .inl rfl⟩).same s10 |>.othW o11 w10⟩
        · exact ⟨_, hlm _⟩
      obtain ⟨nf, hv⟩ := hv
      repeat walk_at "rd"
      exact fin v nf H11 o12 hv
    · rw [decide_eq_false c]
      repeat walk_at "rd"
      refine u_Float (.inr (.inl ⟨rfl, rfl, .inr rfl, rfl⟩)) fun x9 H9 s9 n9 h9 => ?_
      repeat walk_at "rd"
      refine w_lst3 fun a10 H10 s10 n10 h10 => ?_
      repeat walk_at "rd"
      have w10 := (w8.same s9).same s10
      refine u_one w10 (by omega) h10 ((w8.same s9).ne n10) (by show 0 < 3; decide) (by show 3 ≤ 1000; decide) fun v H11 hv o11 w11 => ?_
      have o12 := ((o8.same s9).same s10).trans o11
      have hv : ∃ nf, NmAt CF H11 v nf := by
        simp only [List.mem_cons, List.not_mem_nil, or_false] at hv
        rcases hv with rfl | rfl | rfl
        · exact ⟨_, hlm _⟩
        · exact ⟨.fl (.inf (-1)), (show NmAt CF H9 (.ref x9) (.fl (.inf (-1))) from ⟨x9, rfl, h9, .inr rfl⟩).same s10 |>.othW o11 w10⟩
        · exact ⟨_, hlm _⟩
      obtain ⟨nf, hv⟩ := hv
      repeat walk_at "rd"
      exact fin v nf H11 o12 hv
end
end Nu

set_option Elab.async false
set_option linter.all false
set_option maxRecDepth 100000
set_option autoImplicit false
set_option maxHeartbeats 4000000
namespace Rd
open PySem PySem.Spec PyProof.Rows L2
/-- list + list, each as it stands, ours or the document's -/
def rCatS (K : PySem.W.Frag) : R2 := fun x y H Q => ∃ l b xs zs, x = .ref l ∧ y = .ref b ∧ SqL K H l xs ∧ SqL K H b zs ∧ xs.length + zs.length ≤ sizeLine ∧ ∀ p, H p = none → Q (.ref p) (upd H p (.lst (xs ++ zs)))
theorem op_catS {X : Cx} : OpR X (binaryOp .Add) (rCatS X.K) := by
  intro pins s σ H x y v u Q I rx ry h
  obtain ⟨l, b, xs, zs, rfl, rfl, hH, hB, hz, q⟩ := h
  cases rx
  cases ry
  obtain ⟨its, r, e, z⟩ := I.list hH
  obtain ⟨its2, r2, e2, z2⟩ := I.list hB
  have l1 := r.length
  have l2 := r2.length
  obtain ⟨⟨cls, dd, data, sl⟩, n, ho, hc, hd, hda⟩ := e
  obtain ⟨⟨cls2, dd2, data2, sl2⟩, n2, ho2, hc2, hd2, hda2⟩ := e2
  simp only at hc hd hda hc2 hd2 hda2
  subst hc hd hda hc2 hd2 hda2
  have ea : its.toArray ++ its2.toArray = (its ++ its2).toArray := by simp
  refine concat_meets ⟨_, ho, rfl⟩ ⟨_, ho2, rfl⟩ noFill_list_add seq_list_add PySem.F.slot_list_add PySem.F.entry_list_add (PySem.F.args_list_add_2 _ _) (list_addW l b its.toArray its2.toArray n n2 none none sl sl2 (by rw [List.size_toArray, List.size_toArray]; omega)) ⟨ho, ho2, ?_⟩
  rw [ea]
  exact ⟨.ref _, _, I.lnew (t' := s.toks) (r.append r2) (by rw [List.length_append]; omega), rfl, q _ I.fresh⟩
section
variable {σ : L2.St} {H : Hp} {Q : VK} {K : PySem.W.Frag}
theorem w_catS {l b : Addr} {xs zs : List V} (h : SqL K H l xs) (h' : H b = some (.lst zs)) (hz : xs.length + zs.length ≤ sizeLine) (q : ∀ p H', Same H H' → H p = none → H' p = some (.lst (xs ++ zs)) → Q (.ref p) H') : rCatS K (.ref l) (.ref b) H Q :=
  ⟨l, b, xs, zs, rfl, rfl, h, SqL.of h', hz, fun p hp => q p _ (same_upd hp) hp upd_same⟩
theorem w_sl {r : V → Option Int → Option Int → Hp → VK → Prop} {te : TE} {tl th : TO} (h : te σ H fun x H1 => tl σ H1 fun l H2 => th σ H2 fun u H3 => r x l u H3 Q) : tSl r te tl th σ H Q := h
theorem w_slL {a : Addr} {xs : List V} {lo hi : Option Int} (h : H a = some (.lst xs)) (q : ∀ p H', Same H H' → H p = none → H' p = some (.lst (cutV xs lo hi)) → Q (.ref p) H') : rSlL K (.ref a) lo hi H Q :=
  ⟨a, xs, rfl, SqL.of h, fun p hp => q p _ (same_upd hp) hp upd_same⟩
theorem w_noPart {Q : Option Int → Hp → Prop} (q : Q none H) : tNoPart σ H Q := q
theorem w_part {te : TE} {Q : Option Int → Hp → Prop} (h : te σ H fun x H' => ∃ i, x = .int i ∧ Q (some i) H') : tPart te σ H Q := h
theorem w_partI {R : Int → Prop} {i : Int} (h : R i) : ∃ j, V.int i = .int j ∧ R j := ⟨i, rfl, h⟩
theorem _root_.L2.SqL.same {a : Addr} {xs : List V} {H' : Hp} (h : SqL K H a xs) (s : Same H H') : SqL K H' a xs := by
  rcases h with h | h
  · rcases h with h | ⟨o, h⟩
    · exact .inl (.inl (s _ _ h))
    · exact .inl (.inr ⟨o, s _ _ h⟩)
  · exact .inr h
theorem cut_mem {xs : List V} {lo hi : Option Int} {x : V} (h : x ∈ cutV xs lo hi) : x ∈ xs := List.mem_of_mem_drop (List.mem_of_mem_take h)
end
end Rd
namespace Nu
open PySem PySem.Spec PyProof.Rows L2 Rd
local macro_rules | `(tactic| walk_at "hp") => `(tactic| first | assumption | (refine same_get ?sm ?_; (case sm => assumption); walk_at "hp"))
local macro_rules | `(tactic| walk_at "rd") => `(tactic| first
  | with_reducible refine w_nx ?_
  | with_reducible refine w_rt ?_
  | with_reducible refine w_bk ?_
  | with_reducible refine w_ct ?_
  | with_reducible refine w_seq ?_
  | with_reducible refine w_next ?_
  | with_reducible refine w_ret ?_
  | with_reducible refine w_ifS ?_
  | with_reducible refine w_asg ?_
  | with_reducible refine w_name ?_
  | with_reducible refine w_par ?_
  | with_reducible refine w_parI ?_
  | with_reducible refine w_ii ?_
  | with_reducible refine w_i1 ?_
  | with_reducible refine w_drop ?_
  | with_reducible refine w_sFld ?_
  | ((with_reducible refine' w_var ?rdh ?_); (case rdh => exact rfl))
  | with_reducible refine w_c ?_
  | with_reducible refine w_op ?_
  | with_reducible refine w_un ?_
  | with_reducible refine w_I0 ?_
  | with_reducible refine w_U ?_
  | with_reducible refine w_bits ?_
  | with_reducible refine w_bitsI ?_
  | with_reducible refine w_tup ?_
  | with_reducible refine w_lst ?_
  | with_reducible refine w_nil ?_
  | with_reducible refine w_cons ?_
  | with_reducible refine w_fld ?_
  | with_reducible refine w_call ?_
  | with_reducible refine w_make ?_
  | with_reducible refine w_gsub ?_
  | with_reducible refine w_int1 ?_
  | with_reducible refine w_intB ?_
  | with_reducible refine w_for ?_
  | with_reducible refine w_rng1 ?_
  | with_reducible refine w_iList ?_
  | with_reducible refine w_iTup ?_
  | with_reducible refine w_makeD ?_
  | with_reducible refine w_nn ?_
  | with_reducible refine w_subB ?_
  | with_reducible refine w_meth ?_
  | with_reducible refine w_cb ?_
  | with_reducible refine w_test ?_
  | with_reducible refine w_B ?_
  | with_reducible refine w_bl ?_
  | with_reducible refine w_andV ?_
  | with_reducible refine w_orV ?_
  | with_reducible refine w_notV ?_
  | with_reducible refine w_and ?_
  | with_reducible refine w_or ?_
  | with_reducible refine w_not ?_
  | with_reducible refine w_if ?_
  | with_reducible refine w_gnil ?_
  | with_reducible refine w_gcons ?_
  | with_reducible refine iT ?_
  | with_reducible refine iF ?_
  | with_reducible refine w_eqI ?_
  | with_reducible refine w_neI ?_
  | with_reducible refine w_eqS ?_
  | with_reducible refine w_eqIS ?_
  | with_reducible refine w_eqSI ?_)

section
variable {P : Program} {w : World} {K : PySem.W.Frag} {mg : Str → Option Value} {base : Heap} {CF CP CE : Addr}
theorem Kd8.othL {H H' : Hp} {a : Addr} {xs : List V} {x : V} {n : Option Nm} (h : Kd8 K CF H x n) (e : H a = some (.lst xs)) (o : Oth a H H') : Kd8 K CF H' x n := by
  cases h with
  | num h => exact .num (h.othL e o)
  | bl b => exact .bl b
  | str s => exact .str s
  | non => exact .non
/-- an argument of the plan -/
def A8 (K : PySem.W.Frag) (CF : Addr) (H : Hp) (x : V) : Prop := ∃ n, Kd8 K CF H x n ∧ ∀ m, n = some m → i64 m
theorem A8.same {H H' : Hp} {x : V} (h : A8 K CF H x) (s : Same H H') : A8 K CF H' x := let ⟨n, k, i⟩ := h; ⟨n, k.same s, i⟩
theorem A8.othL {H H' : Hp} {a : Addr} {xs : List V} {x : V} (h : A8 K CF H x) (e : H a = some (.lst xs)) (o : Oth a H H') : A8 K CF H' x := let ⟨n, k, i⟩ := h; ⟨n, k.othL e o, i⟩
theorem A8.othW {H H' : Hp} {p : Addr} {k : Nat} {x : V} (h : A8 K CF H x) (o : Oth p H H') (hw : Well k H p) : A8 K CF H' x := let ⟨_, e⟩ := hw.here; h.othL e o
theorem A8.int {H : Hp} {i : Int} (a : -9223372036854775808 ≤ i) (b : i ≤ 9223372036854775807) : A8 K CF H (.int i) := ⟨some (.int i), .num ⟨rfl, bits64 a (by omega)⟩, fun m e => by cases e; exact ⟨a, b⟩⟩
theorem Well.othL {n : Nat} {H H' : Hp} {p a : Addr} (h : Well n H p) (ne : p ≠ a) (o : Oth a H H') : Well n H' p := by
  obtain ⟨x, y, z, e, d⟩ := h
  exact ⟨x, y, z, o _ _ ne e, d⟩
theorem ixN_nat {n : Nat} {r : Int} (h0 : 0 ≤ r) (h1 : r < n) : ixN n r = some r.toNat := by
  unfold ixN
  rw [if_pos h0, if_pos h1]
def oths : List V := [.non, .bl true, .str "1", .str "x", .bl false]
theorem oths_A8 {H : Hp} {x : V} (h : x ∈ oths) : A8 K CF H x := by
  simp only [oths, List.mem_cons, List.not_mem_nil, or_false] at h
  rcases h with rfl | rfl | rfl | rfl | rfl
  · exact ⟨none, .non, fun m e => nomatch e⟩
  · exact ⟨none, .bl _, fun m e => nomatch e⟩
  · exact ⟨none, .str _, fun m e => nomatch e⟩
  · exact ⟨none, .str _, fun m e => nomatch e⟩
  · exact ⟨none, .bl _, fun m e => nomatch e⟩
/-- a list of three arguments -/
def L3 (K : PySem.W.Frag) (CF : Addr) (H : Hp) (a : Addr) : Prop := ∃ xs, H a = some (.lst xs) ∧ xs.length = 3 ∧ ∀ x ∈ xs, A8 K CF H x
theorem L3.same {H H' : Hp} {a : Addr} (h : L3 K CF H a) (s : Same H H') : L3 K CF H' a := by
  obtain ⟨xs, e, l, k⟩ := h
  exact ⟨xs, s _ _ e, l, fun x hx => (k x hx).same s⟩
theorem L3.othW {H H' : Hp} {a p : Addr} {n : Nat} (h : L3 K CF H a) (ne : a ≠ p) (o : Oth p H H') (hw : Well n H p) : L3 K CF H' a := by
  obtain ⟨xs, e, l, k⟩ := h
  exact ⟨xs, o _ _ ne e, l, fun x hx => (k x hx).othW o hw⟩
theorem L3.set {H : Hp} {a : Addr} {xs : List V} {v : V} {j : Nat} (e : H a = some (.lst xs)) (l : xs.length = 3) (k : ∀ x ∈ xs, A8 K CF H x) (hv : A8 K CF H v) : L3 K CF (upd H a (.lst (xs.set j v))) a := by
  refine ⟨_, upd_same, by simp [l], fun x hx => ?_⟩
  rcases List.mem_or_eq_of_mem_set hx with h | rfl
  · exact (k x h).othL e Oth.refl.put
  · exact hv.othL e Oth.refl.put
def spLaw (K : PySem.W.Frag) : Sp := fun vs H Q _ => ∃ (a : Addr) (ns : List Int), vs = [.ref a] ∧ SqL K H a (ns.map V.int) ∧ ns.length ≤ 63 ∧ (∀ z ∈ ns, bits z ≤ 1048576) ∧ ∀ H', Q (.bl true) H'
theorem sc_law : FnScope ["script", "others", "cell", "well", "turn", "some", "small", "start", "limit", "step"] ["script"] (defScope s_law) := ⟨rfl, rfl, rfl, by decide +kernel, rfl, by decide +kernel, by decide +kernel⟩
theorem ok_law (T : AllP K mg CF CP CE) (k_law_well : Kn P w K mg base CX0 1 "_law_well" ["cell"] spWell) (k_law_draw : Kn P w K mg base CX0 1 "_law_draw" ["well", "many"] spDraw) (k_law_one : Kn P w K mg base CX0 2 "_law_one" ["well", "some"] spOne)
    (k_law_number : Kn P w K mg base CX0 5 "_law_number" ["well"] (spNumb CF)) (k_Float_init : KnC P w K mg base CX0 2 "Float" CF ["self", "sign", "top", "power"] (spInit CF))
    (k_law_said : Kn P w K mg base CX0 10 "_law_said" ["start", "limit", "step"] (spSaid K CF)) (k_law_due : Kn P w K mg base CX0 9 "_law_due" ["start", "limit", "step"] (spSaid K CF)) (k_law_is_alike : Kn P w K mg base CX0 5 "_law_is_alike" ["told", "due"] (spAlike CF))
    (k_law_count_right : Kn P w K mg base CX0 11 "_law_count_right" ["well"] spCount) {f : Addr} {fd : FuncData} (F : Fun K "law" "law" s_law f fd) : FnOk P w K mg base CX0 12 f fd ["script"] (spLaw K) := by
  refine F.ok sc_law (fun vs H Q E h => ?_) (fun cdv A outer s H vs Q E hr h => ?_)
  · obtain ⟨a, ns, rfl, _⟩ := h
    rfl
  · obtain ⟨a, ns, rfl, hS, hl, hb, q⟩ := h
    refine ⟨_, (pss_cons (ps_set (i := 1) sc_law.nd rfl (Or.inl rfl) (pe_lst (pa_cons pe_non (pa_cons pe_bl (pa_cons pe_str (pa_cons pe_str (pa_cons pe_bl pa_nil)))))))
      (pss_cons (ps_for PassesOwn.never rfl (pi_list (pe_slice sl_list (pe_op op_catS (pv 0) (pe_lst (pa_cons pe_int pa_nil))) po_none (po_some pe_int))) (pg_name (i := 2) sc_law.nd rfl (Or.inl rfl))
      (pss_cons (ps_set (i := 3) sc_law.nd rfl (Or.inl rfl) (pk k_law_well hr (pa_cons (pv 2) pa_nil)))
      (pss_cons (ps_for PassesOwn.never rfl (pi_range1 rfl T.b_range (pa_cons pe_int pa_nil)) (pg_name (i := 4) sc_law.nd rfl (Or.inl rfl))
      (pss_cons (ps_set (i := 5) sc_law.nd rfl (Or.inl rfl) (pe_lst (pa_cons (pk k_law_number hr (pa_cons (pv 3) pa_nil)) (pa_cons (pk k_law_number hr (pa_cons (pv 3) pa_nil)) (pa_cons (pk k_law_number hr (pa_cons (pv 3) pa_nil)) pa_nil)))))
      (C8.pss_cut (ps_if (pt_cmpR op_eq (pk k_law_draw hr (pa_cons (pv 3) (pa_cons pe_int pa_nil))) pe_int (nomark _)) (pss_cons (ps_asg (pk k_law_one hr (pa_cons (pv 3) (pa_cons (pv 1) pa_nil))) (pg_sub (pv 5) (pk k_law_draw hr (pa_cons (pv 3) (pa_cons pe_int pa_nil))) set_list))
      (pss_one (ps_asg (pk k_law_one hr (pa_cons (pv 3) (pa_cons (pe_op op_cat (pv 1) (pe_lst (pa_cons pe_int (pa_cons (pkC k_Float_init hr (pa_cons (pe_un un_neg pe_int) (pa_cons pe_int (pa_cons pe_int pa_nil)))) pa_nil)))) pa_nil))) (pg_sub (pv 5) (pk k_law_draw hr (pa_cons (pv 3) (pa_cons pe_int pa_nil))) set_list)))) pss_nil)
      (pss_cons (ps_set (i := 6) sc_law.nd rfl (Or.inl rfl) (pe_lst (pa_cons (pk k_law_draw hr (pa_cons (pv 3) (pa_cons pe_int pa_nil))) (pa_cons (pk k_law_one hr (pa_cons (pv 3) (pa_cons (pe_lst (pa_cons (pk k_law_draw hr (pa_cons (pv 3) (pa_cons pe_int pa_nil))) (pa_cons (pe_ix ix_list (pv 5) pe_int (fun _ _ => rfl)) pa_nil))) pa_nil))) pa_nil))))
      (pss_cons (ps_expr (pe_bm PySem.F.plainAttrs_list PySem.F.slot_list_append PySem.F.type_list_append mt_append (pv 6) (pa_cons (pk k_law_one hr (pa_cons (pv 3) (pa_cons (pe_lst (pa_cons pe_int (pa_cons pe_int (pa_cons (pe_ix ix_list (pv 5) pe_int (fun _ _ => rfl)) (pa_cons (pe_un un_neg pe_int) pa_nil))))) pa_nil))) pa_nil)))
      (pss_one (ps_for PassesOwn.never rfl (pi_list (pe_lst (pa_cons (pv 5) (pa_cons (pv 6) pa_nil)))) (Rd.pg_lst (by rfl) (pgs_cons (pg_name (i := 7) sc_law.nd rfl (Or.inl rfl)) (pgs_cons (pg_name (i := 8) sc_law.nd rfl (Or.inl rfl)) (pgs_cons (pg_name (i := 9) sc_law.nd rfl (Or.inl rfl)) pgs_nil))))
      (pss_one (ps_if (pt_not (pt_val (pk k_law_is_alike hr (pa_cons (pk k_law_said hr (pa_cons (pv 7) (pa_cons (pv 8) (pa_cons (pv 9) pa_nil)))) (pa_cons (pk k_law_due hr (pa_cons (pv 7) (pa_cons (pv 8) (pa_cons (pv 9) pa_nil)))) pa_nil))))) (pss_one (ps_ret pe_bl)) pss_nil)))))))))
      (pss_one (ps_if (pt_not (pt_val (pk k_law_count_right hr (pa_cons (pv 3) pa_nil)))) (pss_one (ps_ret pe_bl)) pss_nil)))))
      (pss_one (ps_ret pe_bl)))), ?_⟩
    repeat walk_at "rd"
    refine w_lstI (by show 5 ≤ 1000; decide) fun O H0 s0 n0 h0 => ?_
    have hS := hS.same s0
    repeat walk_at "rd"
    refine w_sl ?_
    repeat walk_at "rd"
    refine w_lst1 fun b1 H1 s1 n1 h1 => ?_
    refine w_catS (hS.same s1) h1 (by rw [List.length_map]; exact Nat.le_trans (Nat.add_le_add_right hl _) (by show 63 + 1 ≤ sizeLine; decide)) fun b2 H2 s2 n2 h2 => ?_
    refine w_noPart ?_
    refine w_part ?_
    repeat walk_at "rd"
    refine w_slL h2 fun L H3 s3 n3 h3 => ?_
    refine w_iListI h3 ?_
    have hx : ∀ x ∈ cutV (ns.map V.int ++ [V.int 0]) none (some 8), ∃ z, x = .int z ∧ bits z ≤ 1048576 := by
      intro x hx
      have := cut_mem hx
      simp only [List.mem_append, List.mem_map, List.mem_cons, List.not_mem_nil, or_false] at this
      rcases this with ⟨z, hz, rfl⟩ | rfl
      · exact ⟨z, rfl, hb z hz⟩
      · exact ⟨0, rfl, by decide⟩
    generalize cutV (ns.map V.int ++ [V.int 0]) none (some 8) = xs at h3 hx
    have hO : H3 O = some (.lst oths) := s3 _ _ (s2 _ _ (s1 _ _ h0))
    refine for_list (xs := xs) (fun _ σ H' => ∃ c w t s m u1 u2 u3, σ = [some (.ref a), some (.ref O), c, w, t, s, m, u1, u2, u3] ∧ H' L = some (.lst xs) ∧ H' O = some (.lst oths)) ⟨_, _, _, _, _, _, _, _, rfl, h3, hO⟩ (fun i σ H' _ ⟨_, _, _, _, _, _, _, _, _, h, _⟩ => SqL.of h) ?_ ?_
    · rintro i x σ H4 hi ⟨c, w1, tt, s4, m4, u1, u2, u3, rfl, h4, hO4⟩
      obtain ⟨z, rfl, hz⟩ := hx x (List.mem_of_getElem? hi)
      repeat walk_at "rd"
      refine ⟨z, rfl, hz, fun p H5 s5 n5 w5 => ?_⟩
      have neL : L ≠ p := ne_of_none h4 n5
      have neO : O ≠ p := ne_of_none hO4 n5
      have h5 := s5 _ _ h4
      have hO5 := s5 _ _ hO4
      repeat walk_at "rd"
      refine ⟨by decide, by decide, ?_⟩
      refine for_range (lo := 0) (n := 8) (fun k σ H' => ∃ t s m u1 u2 u3, σ = [some (.ref a), some (.ref O), some (.int z), some (.ref p), t, s, m, u1, u2, u3] ∧ H' L = some (.lst xs) ∧ H' O = some (.lst oths) ∧ Well (k * 2000) H' p) ⟨_, _, _, _, _, _, rfl, h5, hO5, w5⟩ ?_ ?_
      · rintro k σ H6 hk ⟨t6, s6, m6, v1, v2, v3, rfl, hL6, hO6, w6⟩
        repeat walk_at "rd"
        refine u_numb w6 (by omega) fun x1 m1 H7 o7 w7 k1 i1 => ?_
        repeat walk_at "rd"
        refine u_numb w7 (by omega) fun x2 m2 H8 o8 w8 k2 i2 => ?_
        repeat walk_at "rd"
        refine u_numb w8 (by omega) fun x3 m3 H9 o9 w9 k3 i3 => ?_
        have k1 := (k1.othW o8 w7).othW o9 w8
        have k2 := k2.othW o9 w8
        repeat walk_at "rd"
        refine w_lst3 fun S H10 s10 n10 h10 => ?_
        have neS := w9.ne n10
        have w10 := w9.same s10
        have hL10 : H10 L = some (.lst xs) := s10 _ _ (o9 _ _ neL (o8 _ _ neL (o7 _ _ neL hL6)))
        have hO10 : H10 O = some (.lst oths) := s10 _ _ (o9 _ _ neO (o8 _ _ neO (o7 _ _ neO hO6)))
        have neSL : L ≠ S := ne_of_none (o9 _ _ neL (o8 _ _ neL (o7 _ _ neL hL6))) n10
        have neSO : O ≠ S := ne_of_none (o9 _ _ neO (o8 _ _ neO (o7 _ _ neO hO6))) n10
        have l10 : L3 K CF H10 S := by
          refine ⟨_, h10, rfl, fun x hx => ?_⟩
          simp only [List.mem_cons, List.not_mem_nil, or_false] at hx
          rcases hx with rfl | rfl | rfl
          · exact ⟨_, .num (k1.same s10), fun m e => by cases e; exact i1⟩
          · exact ⟨_, .num (k2.same s10), fun m e => by cases e; exact i2⟩
          · exact ⟨_, .num (k3.same s10), fun m e => by cases e; exact i3⟩
        clear k1 k2 k3 i1 i2 i3 h10 o7 o8 o9 w7 w8 w9 hL6 hO6 w6
        repeat walk_at "rd"
        refine w_cut (Mid := fun σ' H' => ∃ t, σ' = [some (.ref a), some (.ref O), some (.int z), some (.ref p), t, some (.ref S), m6, v1, v2, v3] ∧ H' L = some (.lst xs) ∧ H' O = some (.lst oths) ∧ Well (k * 2000 + 700) H' p ∧ L3 K CF H' S) ?_ ?_
        · repeat walk_at "rd"
          refine u_draw w10 (by omega) (by decide) (by decide) fun d H11 o11 w11 dl du => ?_
          have hL11 := o11 _ _ neL hL10
          have hO11 := o11 _ _ neO hO10
          have l11 := l10.othW neS o11 w10
          repeat walk_at "rd"
          refine iD (fun _ => ?_) (fun _ => ?_)
          · repeat walk_at "rd"
            refine u_one w11 (by omega) hO11 neO (by decide) (by decide) fun v H12 hv o12 w12 => ?_
            have hL12 := o12 _ _ neL hL11
            have hO12 := o12 _ _ neO hO11
            have l12 := l11.othW neS o12 w11
            have av := oths_A8 (K := K) (CF := CF) (H := H12) hv
            repeat walk_at "rd"
            refine u_draw w12 (by omega) (by decide) (by decide) fun r H13 o13 w13 rl ru => ?_
            have hL13 := o13 _ _ neL hL12
            have hO13 := o13 _ _ neO hO12
            obtain ⟨ys, e13, ly, k13⟩ := l12.othW neS o13 w12
            have av := av.othW o13 w12
            refine w_setL e13 (ixN_nat rl (by omega)) ?_
            have o14 : Oth S H13 (upd H13 S (.lst (ys.set r.toNat v))) := Oth.refl.put
            have l14 : L3 K CF (upd H13 S (.lst (ys.set r.toNat v))) S := L3.set e13 ly k13 av
            have w14 := w13.othL neS.symm o14
            have hL14 := o14 _ _ neSL hL13
            have hO14 := o14 _ _ neSO hO13
            generalize upd H13 S (.lst (ys.set r.toNat v)) = H14 at o14 l14 w14 hL14 hO14 ⊢
            repeat walk_at "rd"
            refine u_Float (.inl ⟨0, rfl, by decide, .inr rfl, by rw [red_zero]; decide, rfl⟩) fun x15 H15 s15 n15 h15 => ?_
            repeat walk_at "rd"
            refine w_lst2 fun b16 H16 s16 n16 h16 => ?_
            have S16 := s15.trans s16
            repeat walk_at "rd"
            refine w_cat (S16 _ _ hO14) h16 (by show 5 + 2 ≤ sizeLine; decide) fun b17 H17 s17 n17 h17 => ?_
            repeat walk_at "rd"
            have S17 := S16.trans s17
            have w17 := w14.same S17
            refine u_one w17 (by omega) h17 ((w14.same S16).ne n17) (by show 0 < 7; decide) (by show 7 ≤ 1000; decide) fun v2 H18 hv2 o18 w18 => ?_
            have av2 : A8 K CF H18 v2 := by
              rcases List.mem_append.1 hv2 with h | h
              · exact oths_A8 h
              · simp only [List.mem_cons, List.not_mem_nil, or_false] at h
                rcases h with rfl | rfl
                · exact A8.int (by decide) (by decide)
                · have k0 : Kd8 K CF H17 (.ref x15) (some (.fl (.fin (-1) (red 0 0).1 (red 0 0).2))) := .num ⟨x15, rfl, h15.same (s16.trans s17), Arg.ok (.inl ⟨0, rfl, by decide, .inr rfl, by rw [red_zero]; decide, rfl⟩)⟩
                  exact A8.othW ⟨_, k0, fun m e => by cases e; trivial⟩ o18 w17
            have l18 := (l14.same S17).othW neS o18 w17
            have hL18 := o18 _ _ neL (S17 _ _ hL14)
            have hO18 := o18 _ _ neO (S17 _ _ hO14)
            repeat walk_at "rd"
            refine u_draw w18 (by omega) (by decide) (by decide) fun r2 H19 o19 w19 rl2 ru2 => ?_
            have hL19 := o19 _ _ neL hL18
            have hO19 := o19 _ _ neO hO18
            obtain ⟨zs, e19, lz, k19⟩ := l18.othW neS o19 w18
            have av2 := av2.othW o19 w18
            refine w_setL e19 (ixN_nat rl2 (by omega)) ?_
            have o20 : Oth S H19 (upd H19 S (.lst (zs.set r2.toNat v2))) := Oth.refl.put
            have l20 : L3 K CF (upd H19 S (.lst (zs.set r2.toNat v2))) S := L3.set e19 lz k19 av2
            exact ⟨_, rfl, o20 _ _ neSL hL19, o20 _ _ neSO hO19, (w19.othL neS.symm o20).mono (by omega), l20⟩
          · repeat walk_at "rd"
            exact ⟨_, rfl, hL11, hO11, w11.mono (by omega), l11⟩
        · rintro σ' H11 ⟨t11, rfl, hL11, hO11, w11, l11⟩
          repeat walk_at "rd"
          refine u_draw w11 (by omega) (by decide) (by decide) fun d1 H12 o12 w12 d1l d1u => ?_
          have l12 := l11.othW neS o12 w11
          repeat walk_at "rd"
          refine u_draw w12 (by omega) (by decide) (by decide) fun d2 H13 o13 w13 d2l d2u => ?_
          have l13 := l12.othW neS o13 w12
          have hL13 := o13 _ _ neL (o12 _ _ neL hL11)
          have hO13 := o13 _ _ neO (o12 _ _ neO hO11)
          obtain ⟨ys, e13, ly, k13⟩ := id l13
          obtain ⟨y1, y2, y3, rfl⟩ : ∃ y1 y2 y3, ys = [y1, y2, y3] := by
            match ys, ly with
            | [y1, y2, y3], _ => exact ⟨y1, y2, y3, rfl⟩
          repeat walk_at "rd"
          refine w_ixL e13 (v := y2) rfl ?_
          repeat walk_at "rd"
          refine w_lst2 fun b14 H14 s14 n14 h14 => ?_
          repeat walk_at "rd"
          have w14 := w13.same s14
          refine u_one w14 (by omega) h14 (w13.ne n14) (by show 0 < 2; decide) (by show 2 ≤ 1000; decide) fun v H15 hv o15 w15 => ?_
          have av : A8 K CF H15 v := by
            simp only [List.mem_cons, List.not_mem_nil, or_false] at hv
            rcases hv with rfl | rfl
            · exact A8.int (by omega) (by omega)
            · exact ((k13 _ (by simp)).same s14).othW o15 w14
          have l15 := (l13.same s14).othW neS o15 w14
          have e15 : H15 S = some (.lst [y1, y2, y3]) := o15 _ _ neS (s14 _ _ e13)
          have hL15 := o15 _ _ neL (s14 _ _ hL13)
          have hO15 := o15 _ _ neO (s14 _ _ hO13)
          have k15 : ∀ x ∈ [y1, y2, y3], A8 K CF H15 x := fun x hx => ((k13 x hx).same s14).othW o15 w14
          repeat walk_at "rd"
          refine w_lst2 fun M H16 s16 n16 h16 => ?_
          have neM := w15.ne n16
          have neML : L ≠ M := ne_of_none hL15 n16
          have neMO : O ≠ M := ne_of_none hO15 n16
          have neMS : S ≠ M := ne_of_none e15 n16
          have w16 := w15.same s16
          have e16 := s16 _ _ e15
          repeat walk_at "rd"
          refine w_bm ?_
          repeat walk_at "rd"
          refine ⟨.inl ⟨rfl, _, SqL.of h16⟩, ?_⟩
          repeat walk_at "rd"
          refine w_ixL e16 (v := y3) rfl ?_
          repeat walk_at "rd"
          refine w_lst4 fun b17 H17 s17 n17 h17 => ?_
          repeat walk_at "rd"
          have w17 := w16.same s17
          refine u_one w17 (by omega) h17 (w16.ne n17) (by show 0 < 4; decide) (by show 4 ≤ 1000; decide) fun v2 H18 hv2 o18 w18 => ?_
          have S17 := s16.trans s17
          have av2 : A8 K CF H18 v2 := by
            simp only [List.mem_cons, List.not_mem_nil, or_false] at hv2
            rcases hv2 with rfl | rfl | rfl | rfl
            · exact A8.int (by decide) (by decide)
            · exact A8.int (by decide) (by decide)
            · exact ((k15 _ (by simp)).same S17).othW o18 w17
            · exact A8.int (by decide) (by decide)
          have e18M : H18 M = some (.lst [.int d1, v]) := o18 _ _ neM (s17 _ _ h16)
          have l18 := (l15.same S17).othW neS o18 w17
          have hL18 := o18 _ _ neL (S17 _ _ hL15)
          have hO18 := o18 _ _ neO (S17 _ _ hO15)
          have av := (av.same S17).othW o18 w17
          repeat walk_at "rd"
          refine w_app e18M (by show 2 < sizeLine; decide) ?_
          have o19 : Oth M H18 (upd H18 M (.lst ([.int d1, v] ++ [v2]))) := Oth.refl.put
          have m19 : L3 K CF (upd H18 M (.lst ([.int d1, v] ++ [v2]))) M := by
            refine ⟨_, upd_same, rfl, fun x hx => ?_⟩
            simp only [List.cons_append, List.nil_append, List.mem_cons, List.not_mem_nil, or_false] at hx
            rcases hx with rfl | rfl | rfl
            · exact A8.int (by omega) (by omega)
            · exact av.othL e18M o19
            · exact av2.othL e18M o19
          have l19 : L3 K CF (upd H18 M (.lst ([.int d1, v] ++ [v2]))) S := by
            obtain ⟨zs, ez, lz, kz⟩ := l18
            exact ⟨zs, o19 _ _ neMS ez, lz, fun x hx => (kz x hx).othL e18M o19⟩
          have w19 := w18.othL neM.symm o19
          have hL19 := o19 _ _ neML hL18
          have hO19 := o19 _ _ neMO hO18
          generalize upd H18 M (.lst ([.int d1, v] ++ [v2])) = H19 at o19 m19 l19 w19 hL19 hO19 ⊢
          repeat walk_at "rd"
          refine w_lst2 fun G H20 s20 n20 h20 => ?_
          have w20 := w19.same s20
          have hL20 := s20 _ _ hL19
          have hO20 := s20 _ _ hO19
          have m20 := m19.same s20
          have l20 := l19.same s20
          refine w_iListI h20 ?_
          refine for_list (xs := [.ref S, .ref M]) (fun _ σ' H' => ∃ u1 u2 u3, σ' = [some (.ref a), some (.ref O), some (.int z), some (.ref p), t11, some (.ref S), some (.ref M), u1, u2, u3] ∧ Same H20 H') ⟨_, _, _, rfl, Same.refl _⟩ (fun i σ H' _ ⟨_, _, _, _, s⟩ => SqL.of (s _ _ h20)) ?_ ?_
          · rintro i3 x σ' H21 hi3 ⟨u1, u2, u3, rfl, S21⟩
            have l21 : ∃ b, x = .ref b ∧ L3 K CF H21 b := by
              have := List.mem_of_getElem? hi3
              simp only [List.mem_cons, List.not_mem_nil, or_false] at this
              rcases this with rfl | rfl
              · exact ⟨S, rfl, l20.same S21⟩
              · exact ⟨M, rfl, m20.same S21⟩
            obtain ⟨b, rfl, zs, ez, lz, kz⟩ := l21
            obtain ⟨y1, y2, y3, rfl⟩ : ∃ y1 y2 y3, zs = [y1, y2, y3] := by
              match zs, lz with
              | [y1, y2, y3], _ => exact ⟨y1, y2, y3, rfl⟩
            obtain ⟨ny1, q1, j1⟩ := kz y1 (by simp)
            obtain ⟨ny2, q2, j2⟩ := kz y2 (by simp)
            obtain ⟨ny3, q3, j3⟩ := kz y3 (by simp)
            refine w_glst ez rfl ?_
            repeat walk_at "rd"
            refine u_said q1 q2 q3 j1 fun v1 H22 s22 k22 => ?_
            repeat walk_at "rd"
            refine u_said (q1.same s22) (q2.same s22) (q3.same s22) j1 fun v2 H23 s23 k23 => ?_
            repeat walk_at "rd"
            refine ⟨v1, v2, _, rfl, k22.same s23, k23, due_good _ _ _, fun H24 s24 => ?_⟩
            repeat walk_at "rd"
            exact ⟨_, _, _, rfl, S21.trans (s22.trans (s23.trans s24))⟩
          · rintro σ' H21 ⟨u1, u2, u3, rfl, S21⟩
            exact ⟨_, _, _, _, _, _, rfl, S21 _ _ hL20, S21 _ _ hO20, (w20.same S21).mono (by omega)⟩
      · rintro σ' H6 ⟨t6, s6, m6, v1, v2, v3, rfl, hL6, hO6, w6⟩
        repeat walk_at "rd"
        refine ⟨p, _, rfl, w6, by decide, fun H7 o7 => ?_⟩
        repeat walk_at "rd"
        exact ⟨_, _, _, _, _, _, _, _, rfl, o7 _ _ neL hL6, o7 _ _ neO hO6⟩
    · rintro σ' H4 ⟨c, w1, tt, s4, m4, u1, u2, u3, rfl, h4, _⟩
      repeat walk_at "rd"
      exact q H4
end
end Nu

set_option Elab.async false
set_option linter.all false
set_option maxRecDepth 100000
set_option autoImplicit false
set_option maxHeartbeats 4000000
namespace Nu
open PySem PySem.Spec PyProof.Rows L2 Rd
local macro_rules | `(tactic| walk_at "rd") => `(tactic| first
  | with_reducible refine w_nx ?_
  | with_reducible refine w_seq ?_
  | with_reducible refine w_drop ?_
  | with_reducible refine w_nil ?_
  | with_reducible refine w_cons ?_
  | ((with_reducible refine' w_var ?rdh ?_); (case rdh => exact rfl)))
theorem exm_own {K : PySem.W.Frag} {C : Addr} (h1 : PySem.W.subIn K (.ref C) (.type "BaseException") = some true) (h2 : PySem.W.isClsIn K C = true) (h3 : PySem.W.typeIn K (.ref C) = some (.type "type")) (h4 : PySem.W.subIn K (.ref C) (.ref C) = some true) : PySem.W.exmOne K (.ref C) (.ref C) = some true := by
  have e2 : (PySem.W.clsIn K C).isSome = true := h2
  unfold PySem.W.exmOne PySem.W.kitCls
  simp [h1, h3, h4, e2]
theorem w_ai {K : PySem.W.Frag} {ta : TA} {σ : L2.St} {H : Hp} {Q : VK} (h : ta σ H fun vs H1 => ∃ (a C : Addr) (ws : List V), vs = .ref a :: ws ∧ ws.length ≤ 1000 ∧ AexC K C ∧ H1 a = some (exo a C none) ∧ Q .non H1) : tAI K ta σ H Q := h
theorem w_ast {K : PySem.W.Frag} {f : Str} {to te : TE} {D : Ends} {σ : L2.St} {H : Hp} (h : te σ H fun y H1 => to σ H1 fun x H2 => ∃ a C : Addr, x = .ref a ∧ AexC K C ∧ PySem.W.findIn K (.ref C) f = some none ∧
  ((H2 a = some (exo a C none) ∧ ∀ dx, H2 dx = none → dx ≠ a → D.nx σ (upd (upd H2 a (exo a C (some dx))) dx (exd dx [(f, y)]))) ∨
    ∃ (dx : Addr) (fs : List (Str × V)), H2 a = some (exo a C (some dx)) ∧ H2 dx = some (exd dx fs) ∧ fs.length ≤ 900 ∧ D.nx σ (upd H2 dx (exd dx ((f, y) :: fs))))) : tAst K f to te D σ H := h
theorem sc_Thrown_init : FnScope ["self", "value", "level"] ["self", "value", "level"] (defScope s_Thrown_init) := ⟨rfl, rfl, rfl, by decide +kernel, rfl, by decide +kernel, by decide +kernel⟩
theorem thr_kn {P : Program} {w : World} {K : PySem.W.Frag} {mg : Str → Option Value} {base : Heap} {CF CP CE : Addr} (T : AllP K mg CF CP CE) {f : Addr} {fd : FuncData}
    (F : FunD K "__init__" "Thrown.__init__" (defArgs s_Thrown_init) (defBody s_Thrown_init) (defScope s_Thrown_init) [.int 1] [] f fd) (a : PySem.W.findIn K (.ref CE) "__init__" = some (some (.ref f))) (t : PySem.W.typeIn K (.ref f) = some (.type "function")) : KnTh P w K mg base CE := by
  obtain ⟨ds, hv, hb⟩ := F.binds1 (ps := ["self", "value", "level"]) 2 0 (by simp) (by decide)
    (fun TT kV doc pm an cdv ct us its h1 h2 => match us, its, h1, h2 with
      | [a, b], [c], _, _ => ⟨_, rfl, rfl⟩)
  refine ⟨f, fd, ds, T.g_Thrown, T.a_Thrown, a, t, hv, hb, ?_⟩
  refine F.ok sc_Thrown_init (fun vs H Q E h => ?_) (fun cdv A outer s H vs Q E hr h => ?_)
  · obtain ⟨x, v, rfl, _⟩ := h
    rfl
  · obtain ⟨x, v, rfl, hx, q⟩ := h
    refine ⟨_, PSs.nox (pss_cons (ps_expr (pe_ainit rfl T.b_AE T.v_AE (pa_cons (pv 0) (pa_cons (pv 1) pa_nil)))) (pss_cons (ps_ast (pv 0) (pv 1)) (pss_one (ps_ast (pv 0) (pv 2))))), ?_⟩
    repeat walk_at "rd"
    refine w_ai ?_
    repeat walk_at "rd"
    refine ⟨x, CE, [v], rfl, by show 1 ≤ 1000; decide, T.a_Thrown, hx, ?_⟩
    repeat walk_at "rd"
    refine w_ast ?_
    repeat walk_at "rd"
    refine ⟨x, CE, rfl, T.a_Thrown, T.xn_value, .inl ⟨hx, fun d hd hda => ?_⟩⟩
    repeat walk_at "rd"
    refine w_ast ?_
    repeat walk_at "rd"
    refine ⟨x, CE, rfl, T.a_Thrown, T.xn_level, .inr ⟨d, _, by rw [upd_ne (Ne.symm hda), upd_same], upd_same, by show 1 ≤ 900; decide, ?_⟩⟩
    exact q d hd hda
theorem ok_all {P : Program} {w : World} {K : PySem.W.Frag} {mg : Str → Option Value} {base : Heap} {CF CP CE : Addr} (T : AllP K mg CF CP CE) (kT : KnTh P w K mg base CE) {f : Addr} {fd : FuncData} (F : Fun K "law" "law" s_law f fd) : FnOk P w K mg base CX0 20 f fd ["script"] (spLaw K) := by
  have A := T.toAll
  have k1 := ok_is_plain (P := P) (w := w) (base := base) A
  have k2 := ok_reduced (P := P) (w := w) (base := base) A
  have k3 := ok_fits (P := P) (w := w) (base := base) A
  have k4 := ok_sign_of (P := P) (w := w) (base := base) A
  have k5 := ok_init (P := P) (w := w) (base := base) A k1 k2 k3
  have k6 := ok_infinity (P := P) (w := w) (base := base) A k5
  have k7 := ok_nearest (P := P) (w := w) (base := base) A k5 k6
  have k8 := ok_is_finite (P := P) (w := w) (base := base) A
  have k9 := ok_ratio (P := P) (w := w) (base := base) A
  have k10 := ok_is_number (P := P) (w := w) (base := base) A k1
  have k11 := ok_to_float (P := P) (w := w) (base := base) A k4 k7
  have k12 := ok_place (P := P) (w := w) (base := base) A k8 k9
  have k13 := ok_order (P := P) (w := w) (base := base) A k12
  have k14 := ok_compare (P := P) (w := w) (base := base) A k13
  have k15 := ok_same (P := P) (w := w) (base := base) T k10 k13
  have k18 := ok_well (P := P) (w := w) (base := base) T.toAllL
  have k19 := ok_draw (P := P) (w := w) (base := base) T.toAllL
  have k20 := ok_one (P := P) (w := w) (base := base) T.toAllL k19
  have k21 := ok_great (P := P) (w := w) (base := base) T.toAllL k19
  have k22 := ok_finite (P := P) (w := w) (base := base) T.toAllM k19 k20 k21
  have k23 := ok_float (P := P) (w := w) (base := base) T.toAllM k19 k20 k22 k5
  have k24 := ok_nan (P := P) (w := w) (base := base) T k5
  have k25 := ok_added (P := P) (w := w) (base := base) T k24 k5 k9 k4 k7
  have k26 := ok_by_floats (P := P) (w := w) (base := base) T k24 k25
  have k27 := ok_arith (P := P) (w := w) (base := base) T k26 k11
  have k28 := ok_is_within (P := P) (w := w) (base := base) T k14
  have k29 := ok_plan (P := P) (w := w) (base := base) T
  have k30 := ok_goes_on (P := P) (w := w) (base := base) T k27 k28
  have k31 := ok_whole_plan (P := P) (w := w) (base := base) T kT k10 k13 k4 k8 k9 k29
  have k32 := ok_for_plan (P := P) (w := w) (base := base) T kT k1 k10 k11 k31 k28 k29
  have k33 := ok_said (P := P) (w := w) (base := base) T k32 k30
  have k34 := ok_is_num (P := P) (w := w) (base := base) T
  have k35 := ok_due_ints (P := P) (w := w) (base := base) T k34 k14
  have k36 := ok_due (P := P) (w := w) (base := base) T k34 k35 k11 k14 k27
  have k37 := ok_alike (P := P) (w := w) (base := base) T k15
  have k38 := ok_int (P := P) (w := w) (base := base) T k19 k20 k21
  have k39 := ok_number (P := P) (w := w) (base := base) T k19 k20 k38 k23 k5
  have k40 := ok_count (P := P) (w := w) (base := base) T k19 k20 k5 k33 k36 k37
  exact (ok_law T k18 k19 k20 k39 k5 k33 k36 k37 k40 F).mono (by decide)
theorem fin_mk {l : PySem.W.OpenLaw} {w : World} {K : PySem.W.Frag} {h : Heap} {mg : Str → Option Value} {fa : Addr} (X : K.In h) (G : h.Ns mainGlobals mg) (hfa : mg "law" = some (.ref fa))
    {t_LEAST : Tok}
    {t_MOST : Tok}
    {t_ROOM : Tok}
    {t_LOWEST : Tok}
    {t_TOO_GREAT : Tok}
    {CF : Addr}
    {CP : Addr}
    {f1 : Addr} {od1 an1 : Option Addr} {sl1 : Array (Option Value)} {oc1 dc1 pm1 cd1 ct1 kV1 : Value}
    {f2 : Addr} {od2 an2 : Option Addr} {sl2 : Array (Option Value)} {oc2 dc2 pm2 cd2 ct2 kV2 : Value}
    {f3 : Addr} {od3 an3 : Option Addr} {sl3 : Array (Option Value)} {oc3 dc3 pm3 cd3 ct3 kV3 : Value}
    {f4 : Addr} {od4 an4 : Option Addr} {sl4 : Array (Option Value)} {oc4 dc4 pm4 cd4 ct4 kV4 : Value}
    {f5 : Addr} {od5 an5 : Option Addr} {sl5 : Array (Option Value)} {oc5 dc5 pm5 cd5 ct5 kV5 : Value}
    {f6 : Addr} {od6 an6 : Option Addr} {sl6 : Array (Option Value)} {oc6 dc6 pm6 cd6 ct6 kV6 : Value}
    {f7 : Addr} {od7 an7 : Option Addr} {sl7 : Array (Option Value)} {oc7 dc7 pm7 cd7 ct7 kV7 : Value}
    {f8 : Addr} {od8 an8 : Option Addr} {sl8 : Array (Option Value)} {oc8 dc8 pm8 cd8 ct8 kV8 : Value}
    {f9 : Addr} {od9 an9 : Option Addr} {sl9 : Array (Option Value)} {oc9 dc9 pm9 cd9 ct9 kV9 : Value}
    {f10 : Addr} {od10 an10 : Option Addr} {sl10 : Array (Option Value)} {oc10 dc10 pm10 cd10 ct10 kV10 : Value}
    {f11 : Addr} {od11 an11 : Option Addr} {sl11 : Array (Option Value)} {oc11 dc11 pm11 cd11 ct11 kV11 : Value}
    {f12 : Addr} {od12 an12 : Option Addr} {sl12 : Array (Option Value)} {oc12 dc12 pm12 cd12 ct12 kV12 : Value}
    {f13 : Addr} {od13 an13 : Option Addr} {sl13 : Array (Option Value)} {oc13 dc13 pm13 cd13 ct13 kV13 : Value}
    {f14 : Addr} {od14 an14 : Option Addr} {sl14 : Array (Option Value)} {oc14 dc14 pm14 cd14 ct14 kV14 : Value}
    {f15 : Addr} {od15 an15 : Option Addr} {sl15 : Array (Option Value)} {oc15 dc15 pm15 cd15 ct15 kV15 : Value}
    {f16 : Addr} {od16 an16 : Option Addr} {sl16 : Array (Option Value)} {oc16 dc16 pm16 cd16 ct16 kV16 : Value}
    {f17 : Addr} {od17 an17 : Option Addr} {sl17 : Array (Option Value)} {oc17 dc17 pm17 cd17 ct17 kV17 : Value}
    {f18 : Addr} {od18 an18 : Option Addr} {sl18 : Array (Option Value)} {oc18 dc18 pm18 cd18 ct18 kV18 : Value}
    {f19 : Addr} {od19 an19 : Option Addr} {sl19 : Array (Option Value)} {oc19 dc19 pm19 cd19 ct19 kV19 : Value}
    {f20 : Addr} {od20 an20 : Option Addr} {sl20 : Array (Option Value)} {oc20 dc20 pm20 cd20 ct20 kV20 : Value}
    {f21 : Addr} {od21 an21 : Option Addr} {sl21 : Array (Option Value)} {oc21 dc21 pm21 cd21 ct21 kV21 : Value}
    {f22 : Addr} {od22 an22 : Option Addr} {sl22 : Array (Option Value)} {oc22 dc22 pm22 cd22 ct22 kV22 : Value}
    {f23 : Addr} {od23 an23 : Option Addr} {sl23 : Array (Option Value)} {oc23 dc23 pm23 cd23 ct23 kV23 : Value}
    {f24 : Addr} {od24 an24 : Option Addr} {sl24 : Array (Option Value)} {oc24 dc24 pm24 cd24 ct24 kV24 : Value}
    {f25 : Addr} {od25 an25 : Option Addr} {sl25 : Array (Option Value)} {oc25 dc25 pm25 cd25 ct25 kV25 : Value}
    {f26 : Addr} {od26 an26 : Option Addr} {sl26 : Array (Option Value)} {oc26 dc26 pm26 cd26 ct26 kV26 : Value}
    {f27 : Addr} {od27 an27 : Option Addr} {sl27 : Array (Option Value)} {oc27 dc27 pm27 cd27 ct27 kV27 : Value}
    {f28 : Addr} {od28 an28 : Option Addr} {sl28 : Array (Option Value)} {oc28 dc28 pm28 cd28 ct28 kV28 : Value}
    {f29 : Addr} {od29 an29 : Option Addr} {sl29 : Array (Option Value)} {oc29 dc29 pm29 cd29 ct29 kV29 : Value}
    {f30 : Addr} {od30 an30 : Option Addr} {sl30 : Array (Option Value)} {oc30 dc30 pm30 cd30 ct30 kV30 : Value}
    {f31 : Addr} {od31 an31 : Option Addr} {sl31 : Array (Option Value)} {oc31 dc31 pm31 cd31 ct31 kV31 : Value}
    {f32 : Addr} {od32 an32 : Option Addr} {sl32 : Array (Option Value)} {oc32 dc32 pm32 cd32 ct32 kV32 : Value}
    {f33 : Addr} {od33 an33 : Option Addr} {sl33 : Array (Option Value)} {oc33 dc33 pm33 cd33 ct33 kV33 : Value}
    {f34 : Addr} {od34 an34 : Option Addr} {sl34 : Array (Option Value)} {oc34 dc34 pm34 cd34 ct34 kV34 : Value}
    {f35 : Addr} {od35 an35 : Option Addr} {sl35 : Array (Option Value)} {oc35 dc35 pm35 cd35 ct35 kV35 : Value}
    {f36 : Addr} {od36 an36 : Option Addr} {sl36 : Array (Option Value)} {oc36 dc36 pm36 cd36 ct36 kV36 : Value}
    {f37 : Addr} {od37 an37 : Option Addr} {sl37 : Array (Option Value)} {oc37 dc37 pm37 cd37 ct37 kV37 : Value}
    {f38 : Addr} {od38 an38 : Option Addr} {sl38 : Array (Option Value)} {oc38 dc38 pm38 cd38 ct38 kV38 : Value}
    {f39 : Addr} {od39 an39 : Option Addr} {sl39 : Array (Option Value)} {oc39 dc39 pm39 cd39 ct39 kV39 : Value}
    {CE : Addr} {f99 : Addr} {od99 an99 : Option Addr} {sl99 : Array (Option Value)} {oc99 dc99 pm99 cd99 ct99 kV99 : Value} {TD : Addr} {ocD : Value} {odD : Option Addr} {slD : Array (Option Value)} {tD1 : Tok} {nD : Nat}
    
    
    
    
    
    
    
    (b_isinstance : PySem.W.nsIn K mainGlobals "isinstance" = some none)
    (b_int : PySem.W.nsIn K mainGlobals "int" = some none)
    (b_str : PySem.W.nsIn K mainGlobals "str" = some none)
    (b_bool : PySem.W.nsIn K mainGlobals "bool" = some none)
    (b_abs : PySem.W.nsIn K mainGlobals "abs" = some none)
    (b_max : PySem.W.nsIn K mainGlobals "max" = some none)
    (b_min : PySem.W.nsIn K mainGlobals "min" = some none)
    (b_divmod : PySem.W.nsIn K mainGlobals "divmod" = some none)
    (b_len : PySem.W.nsIn K mainGlobals "len" = some none)
    (b_range : PySem.W.nsIn K mainGlobals "range" = some none)
    (b_zip : PySem.W.nsIn K mainGlobals "zip" = some none)
    (c_LEAST : PySem.W.nsIn K mainGlobals "LEAST" = some (some (.int (-9223372036854775808) t_LEAST)))
    (c_MOST : PySem.W.nsIn K mainGlobals "MOST" = some (some (.int (9223372036854775807) t_MOST)))
    (c_ROOM : PySem.W.nsIn K mainGlobals "ROOM" = some (some (.int (9007199254740992) t_ROOM)))
    (c_LOWEST : PySem.W.nsIn K mainGlobals "LOWEST" = some (some (.int (-1074) t_LOWEST)))
    (c_TOO_GREAT : PySem.W.nsIn K mainGlobals "TOO_GREAT" = some (some (.int (1024) t_TOO_GREAT)))
    (g_Float : PySem.W.nsIn K mainGlobals "Float" = some (some (.ref CF)))
    (pg_Float : PySem.W.plainGet K CF Str.empty = true)
    (hd_Float : PySem.W.hasDictIn K CF = true)
    (po_Float : PySem.W.plainOver K CF = true)
    (sa_Float : PySem.W.findIn K (.ref CF) "__setattr__" = some (some (.builtin "object.__setattr__")))
    (yc_Float : PySem.W.findIn K (.ref CF) "__class__" = some (some (.builtin "object.__class__")))
    (ym_Float : PySem.W.mroIn K CF (.type "object") = some true)
    (n_sign : PySem.W.findIn K (.ref CF) "sign" = some none)
    (n_top : PySem.W.findIn K (.ref CF) "top" = some none)
    (n_power : PySem.W.findIn K (.ref CF) "power" = some none)
    (i_Fint : PySem.W.kitOne K (.ref CF) (.type "int") = some false)
    (i_Fbool : PySem.W.kitOne K (.ref CF) (.type "bool") = some false)
    (i_Fstr : PySem.W.kitOne K (.ref CF) (.type "str") = some false)
    (i_intF : PySem.W.kitOne K (.type "int") (.ref CF) = some false)
    (i_boolF : PySem.W.kitOne K (.type "bool") (.ref CF) = some false)
    (i_strF : PySem.W.kitOne K (.type "str") (.ref CF) = some false)
    (i_nonF : PySem.W.kitOne K (.type "NoneType") (.ref CF) = some false)
    (mk_Float : PySem.W.makesIn K CF = true)
    (kc_Float : PySem.W.keepIn K (.ref CF) = true)
    (g_ForPlan : PySem.W.nsIn K mainGlobals "ForPlan" = some (some (.ref CP)))
    (pg_ForPlan : PySem.W.plainGet K CP Str.empty = true)
    (hd_ForPlan : PySem.W.hasDictIn K CP = true)
    (po_ForPlan : PySem.W.plainOver K CP = true)
    (sa_ForPlan : PySem.W.findIn K (.ref CP) "__setattr__" = some (some (.builtin "object.__setattr__")))
    (yc_ForPlan : PySem.W.findIn K (.ref CP) "__class__" = some (some (.builtin "object.__class__")))
    (ym_ForPlan : PySem.W.mroIn K CP (.type "object") = some true)
    (n_value : PySem.W.findIn K (.ref CP) "value" = some none)
    (n_stride : PySem.W.findIn K (.ref CP) "stride" = some none)
    (n_left : PySem.W.findIn K (.ref CP) "left" = some none)
    (n_limit : PySem.W.findIn K (.ref CP) "limit" = some none)
    (mk_ForPlan : PySem.W.makesIn K CP = true)
    (kc_ForPlan : PySem.W.keepIn K (.ref CP) = true)
    (y_spec : PySem.W.specialIn K (.builtin "object.__class__") "__get__" = some (some (.builtin "getset_descriptor.__get__")))
    (y_takes : PySem.W.takesIn K (.builtin "object.__class__") = some true)
    (a1 : PySem.W.findIn K (.ref CF) "__init__" = some (some (.ref f1)))
    (l1 : K.lookup f1 = some ⟨oc1, od1, .func (PySem.W.fnOf "__init__" "Float.__init__" (defArgs s_Float_init) (defBody s_Float_init) (defScope s_Float_init) .none kV1 dc1 pm1 an1 cd1 ct1), sl1⟩)
    (c1 : PySem.W.codeIn K cd1 "Float.__init__" = true)
    (k1 : PySem.W.keepIn K (.ref f1) = true)
    (i1 : PySem.W.isFn K (.ref f1) = true)
    (a2 : PySem.W.findIn K (.ref CP) "__init__" = some (some (.ref f2)))
    (l2 : K.lookup f2 = some ⟨oc2, od2, .func (PySem.W.fnOf "__init__" "ForPlan.__init__" (defArgs s_ForPlan_init) (defBody s_ForPlan_init) (defScope s_ForPlan_init) .none kV2 dc2 pm2 an2 cd2 ct2), sl2⟩)
    (c2 : PySem.W.codeIn K cd2 "ForPlan.__init__" = true)
    (k2 : PySem.W.keepIn K (.ref f2) = true)
    (i2 : PySem.W.isFn K (.ref f2) = true)
    (a3 : PySem.W.findIn K (.ref CF) "is_finite" = some (some (.ref f3)))
    (l3 : K.lookup f3 = some ⟨oc3, od3, .func (PySem.W.fnOf "is_finite" "Float.is_finite" (defArgs s_Float_is_finite) (defBody s_Float_is_finite) (defScope s_Float_is_finite) .none kV3 dc3 pm3 an3 cd3 ct3), sl3⟩)
    (c3 : PySem.W.codeIn K cd3 "Float.is_finite" = true)
    (k3 : PySem.W.keepIn K (.ref f3) = true)
    (i3 : PySem.W.isFn K (.ref f3) = true)
    (a4 : PySem.W.findIn K (.ref CF) "ratio" = some (some (.ref f4)))
    (l4 : K.lookup f4 = some ⟨oc4, od4, .func (PySem.W.fnOf "ratio" "Float.ratio" (defArgs s_Float_ratio) (defBody s_Float_ratio) (defScope s_Float_ratio) .none kV4 dc4 pm4 an4 cd4 ct4), sl4⟩)
    (c4 : PySem.W.codeIn K cd4 "Float.ratio" = true)
    (k4 : PySem.W.keepIn K (.ref f4) = true)
    (i4 : PySem.W.isFn K (.ref f4) = true)
    (a5 : PySem.W.findIn K (.ref CP) "goes_on" = some (some (.ref f5)))
    (l5 : K.lookup f5 = some ⟨oc5, od5, .func (PySem.W.fnOf "goes_on" "ForPlan.goes_on" (defArgs s_ForPlan_goes_on) (defBody s_ForPlan_goes_on) (defScope s_ForPlan_goes_on) .none kV5 dc5 pm5 an5 cd5 ct5), sl5⟩)
    (c5 : PySem.W.codeIn K cd5 "ForPlan.goes_on" = true)
    (k5 : PySem.W.keepIn K (.ref f5) = true)
    (i5 : PySem.W.isFn K (.ref f5) = true)
    (a6 : PySem.W.nsIn K mainGlobals "is_plain" = some (some (.ref f6)))
    (l6 : K.lookup f6 = some ⟨oc6, od6, .func (PySem.W.fnOf "is_plain" "is_plain" (defArgs s_is_plain) (defBody s_is_plain) (defScope s_is_plain) .none kV6 dc6 pm6 an6 cd6 ct6), sl6⟩)
    (c6 : PySem.W.codeIn K cd6 "is_plain" = true)
    (k6 : PySem.W.keepIn K (.ref f6) = true)
    (a7 : PySem.W.nsIn K mainGlobals "reduced" = some (some (.ref f7)))
    (l7 : K.lookup f7 = some ⟨oc7, od7, .func (PySem.W.fnOf "reduced" "reduced" (defArgs s_reduced) (defBody s_reduced) (defScope s_reduced) .none kV7 dc7 pm7 an7 cd7 ct7), sl7⟩)
    (c7 : PySem.W.codeIn K cd7 "reduced" = true)
    (k7 : PySem.W.keepIn K (.ref f7) = true)
    (a8 : PySem.W.nsIn K mainGlobals "fits" = some (some (.ref f8)))
    (l8 : K.lookup f8 = some ⟨oc8, od8, .func (PySem.W.fnOf "fits" "fits" (defArgs s_fits) (defBody s_fits) (defScope s_fits) .none kV8 dc8 pm8 an8 cd8 ct8), sl8⟩)
    (c8 : PySem.W.codeIn K cd8 "fits" = true)
    (k8 : PySem.W.keepIn K (.ref f8) = true)
    (a9 : PySem.W.nsIn K mainGlobals "sign_of" = some (some (.ref f9)))
    (l9 : K.lookup f9 = some ⟨oc9, od9, .func (PySem.W.fnOf "sign_of" "sign_of" (defArgs s_sign_of) (defBody s_sign_of) (defScope s_sign_of) .none kV9 dc9 pm9 an9 cd9 ct9), sl9⟩)
    (c9 : PySem.W.codeIn K cd9 "sign_of" = true)
    (k9 : PySem.W.keepIn K (.ref f9) = true)
    (a10 : PySem.W.nsIn K mainGlobals "infinity" = some (some (.ref f10)))
    (l10 : K.lookup f10 = some ⟨oc10, od10, .func (PySem.W.fnOf "infinity" "infinity" (defArgs s_infinity) (defBody s_infinity) (defScope s_infinity) .none kV10 dc10 pm10 an10 cd10 ct10), sl10⟩)
    (c10 : PySem.W.codeIn K cd10 "infinity" = true)
    (k10 : PySem.W.keepIn K (.ref f10) = true)
    (a11 : PySem.W.nsIn K mainGlobals "nearest" = some (some (.ref f11)))
    (l11 : K.lookup f11 = some ⟨oc11, od11, .func (PySem.W.fnOf "nearest" "nearest" (defArgs s_nearest) (defBody s_nearest) (defScope s_nearest) .none kV11 dc11 pm11 an11 cd11 ct11), sl11⟩)
    (c11 : PySem.W.codeIn K cd11 "nearest" = true)
    (k11 : PySem.W.keepIn K (.ref f11) = true)
    (a12 : PySem.W.nsIn K mainGlobals "is_number" = some (some (.ref f12)))
    (l12 : K.lookup f12 = some ⟨oc12, od12, .func (PySem.W.fnOf "is_number" "is_number" (defArgs s_is_number) (defBody s_is_number) (defScope s_is_number) .none kV12 dc12 pm12 an12 cd12 ct12), sl12⟩)
    (c12 : PySem.W.codeIn K cd12 "is_number" = true)
    (k12 : PySem.W.keepIn K (.ref f12) = true)
    (a13 : PySem.W.nsIn K mainGlobals "to_float" = some (some (.ref f13)))
    (l13 : K.lookup f13 = some ⟨oc13, od13, .func (PySem.W.fnOf "to_float" "to_float" (defArgs s_to_float) (defBody s_to_float) (defScope s_to_float) .none kV13 dc13 pm13 an13 cd13 ct13), sl13⟩)
    (c13 : PySem.W.codeIn K cd13 "to_float" = true)
    (k13 : PySem.W.keepIn K (.ref f13) = true)
    (a14 : PySem.W.nsIn K mainGlobals "place_of" = some (some (.ref f14)))
    (l14 : K.lookup f14 = some ⟨oc14, od14, .func (PySem.W.fnOf "place_of" "place_of" (defArgs s_place_of) (defBody s_place_of) (defScope s_place_of) .none kV14 dc14 pm14 an14 cd14 ct14), sl14⟩)
    (c14 : PySem.W.codeIn K cd14 "place_of" = true)
    (k14 : PySem.W.keepIn K (.ref f14) = true)
    (a15 : PySem.W.nsIn K mainGlobals "order_of" = some (some (.ref f15)))
    (l15 : K.lookup f15 = some ⟨oc15, od15, .func (PySem.W.fnOf "order_of" "order_of" (defArgs s_order_of) (defBody s_order_of) (defScope s_order_of) .none kV15 dc15 pm15 an15 cd15 ct15), sl15⟩)
    (c15 : PySem.W.codeIn K cd15 "order_of" = true)
    (k15 : PySem.W.keepIn K (.ref f15) = true)
    (a16 : PySem.W.nsIn K mainGlobals "compare" = some (some (.ref f16)))
    (l16 : K.lookup f16 = some ⟨oc16, od16, .func (PySem.W.fnOf "compare" "compare" (defArgs s_compare) (defBody s_compare) (defScope s_compare) .none kV16 dc16 pm16 an16 cd16 ct16), sl16⟩)
    (c16 : PySem.W.codeIn K cd16 "compare" = true)
    (k16 : PySem.W.keepIn K (.ref f16) = true)
    (a17 : PySem.W.nsIn K mainGlobals "same" = some (some (.ref f17)))
    (l17 : K.lookup f17 = some ⟨oc17, od17, .func (PySem.W.fnOf "same" "same" (defArgs s_same) (defBody s_same) (defScope s_same) .none kV17 dc17 pm17 an17 cd17 ct17), sl17⟩)
    (c17 : PySem.W.codeIn K cd17 "same" = true)
    (k17 : PySem.W.keepIn K (.ref f17) = true)
    (a18 : PySem.W.nsIn K mainGlobals "_law_well" = some (some (.ref f18)))
    (l18 : K.lookup f18 = some ⟨oc18, od18, .func (PySem.W.fnOf "_law_well" "_law_well" (defArgs s_law_well) (defBody s_law_well) (defScope s_law_well) .none kV18 dc18 pm18 an18 cd18 ct18), sl18⟩)
    (c18 : PySem.W.codeIn K cd18 "_law_well" = true)
    (k18 : PySem.W.keepIn K (.ref f18) = true)
    (a19 : PySem.W.nsIn K mainGlobals "_law_draw" = some (some (.ref f19)))
    (l19 : K.lookup f19 = some ⟨oc19, od19, .func (PySem.W.fnOf "_law_draw" "_law_draw" (defArgs s_law_draw) (defBody s_law_draw) (defScope s_law_draw) .none kV19 dc19 pm19 an19 cd19 ct19), sl19⟩)
    (c19 : PySem.W.codeIn K cd19 "_law_draw" = true)
    (k19 : PySem.W.keepIn K (.ref f19) = true)
    (a20 : PySem.W.nsIn K mainGlobals "_law_one" = some (some (.ref f20)))
    (l20 : K.lookup f20 = some ⟨oc20, od20, .func (PySem.W.fnOf "_law_one" "_law_one" (defArgs s_law_one) (defBody s_law_one) (defScope s_law_one) .none kV20 dc20 pm20 an20 cd20 ct20), sl20⟩)
    (c20 : PySem.W.codeIn K cd20 "_law_one" = true)
    (k20 : PySem.W.keepIn K (.ref f20) = true)
    (a21 : PySem.W.nsIn K mainGlobals "_law_great" = some (some (.ref f21)))
    (l21 : K.lookup f21 = some ⟨oc21, od21, .func (PySem.W.fnOf "_law_great" "_law_great" (defArgs s_law_great) (defBody s_law_great) (defScope s_law_great) .none kV21 dc21 pm21 an21 cd21 ct21), sl21⟩)
    (c21 : PySem.W.codeIn K cd21 "_law_great" = true)
    (k21 : PySem.W.keepIn K (.ref f21) = true)
    (a22 : PySem.W.nsIn K mainGlobals "_law_finite" = some (some (.ref f22)))
    (l22 : K.lookup f22 = some ⟨oc22, od22, .func (PySem.W.fnOf "_law_finite" "_law_finite" (defArgs s_law_finite) (defBody s_law_finite) (defScope s_law_finite) .none kV22 dc22 pm22 an22 cd22 ct22), sl22⟩)
    (c22 : PySem.W.codeIn K cd22 "_law_finite" = true)
    (k22 : PySem.W.keepIn K (.ref f22) = true)
    (a23 : PySem.W.nsIn K mainGlobals "_law_float" = some (some (.ref f23)))
    (l23 : K.lookup f23 = some ⟨oc23, od23, .func (PySem.W.fnOf "_law_float" "_law_float" (defArgs s_law_float) (defBody s_law_float) (defScope s_law_float) .none kV23 dc23 pm23 an23 cd23 ct23), sl23⟩)
    (c23 : PySem.W.codeIn K cd23 "_law_float" = true)
    (k23 : PySem.W.keepIn K (.ref f23) = true)
    (a24 : PySem.W.nsIn K mainGlobals "nan" = some (some (.ref f24)))
    (l24 : K.lookup f24 = some ⟨oc24, od24, .func (PySem.W.fnOf "nan" "nan" (defArgs s_nan) (defBody s_nan) (defScope s_nan) .none kV24 dc24 pm24 an24 cd24 ct24), sl24⟩)
    (c24 : PySem.W.codeIn K cd24 "nan" = true)
    (k24 : PySem.W.keepIn K (.ref f24) = true)
    (a25 : PySem.W.nsIn K mainGlobals "added" = some (some (.ref f25)))
    (l25 : K.lookup f25 = some ⟨oc25, od25, .func (PySem.W.fnOf "added" "added" (defArgs s_added) (defBody s_added) (defScope s_added) .none kV25 dc25 pm25 an25 cd25 ct25), sl25⟩)
    (c25 : PySem.W.codeIn K cd25 "added" = true)
    (k25 : PySem.W.keepIn K (.ref f25) = true)
    (a26 : PySem.W.nsIn K mainGlobals "by_floats" = some (some (.ref f26)))
    (l26 : K.lookup f26 = some ⟨oc26, od26, .func (PySem.W.fnOf "by_floats" "by_floats" (defArgs s_by_floats) (defBody s_by_floats) (defScope s_by_floats) .none kV26 dc26 pm26 an26 cd26 ct26), sl26⟩)
    (c26 : PySem.W.codeIn K cd26 "by_floats" = true)
    (k26 : PySem.W.keepIn K (.ref f26) = true)
    (a27 : PySem.W.nsIn K mainGlobals "arith" = some (some (.ref f27)))
    (l27 : K.lookup f27 = some ⟨oc27, od27, .func (PySem.W.fnOf "arith" "arith" (defArgs s_arith) (defBody s_arith) (defScope s_arith) .none kV27 dc27 pm27 an27 cd27 ct27), sl27⟩)
    (c27 : PySem.W.codeIn K cd27 "arith" = true)
    (k27 : PySem.W.keepIn K (.ref f27) = true)
    (a28 : PySem.W.nsIn K mainGlobals "is_within" = some (some (.ref f28)))
    (l28 : K.lookup f28 = some ⟨oc28, od28, .func (PySem.W.fnOf "is_within" "is_within" (defArgs s_is_within) (defBody s_is_within) (defScope s_is_within) .none kV28 dc28 pm28 an28 cd28 ct28), sl28⟩)
    (c28 : PySem.W.codeIn K cd28 "is_within" = true)
    (k28 : PySem.W.keepIn K (.ref f28) = true)
    (a29 : PySem.W.nsIn K mainGlobals "for_plan" = some (some (.ref f29)))
    (l29 : K.lookup f29 = some ⟨oc29, od29, .func (PySem.W.fnOf "for_plan" "for_plan" (defArgs s_for_plan) (defBody s_for_plan) (defScope s_for_plan) .none kV29 dc29 pm29 an29 cd29 ct29), sl29⟩)
    (c29 : PySem.W.codeIn K cd29 "for_plan" = true)
    (k29 : PySem.W.keepIn K (.ref f29) = true)
    (a30 : PySem.W.nsIn K mainGlobals "whole_plan" = some (some (.ref f30)))
    (l30 : K.lookup f30 = some ⟨oc30, od30, .func (PySem.W.fnOf "whole_plan" "whole_plan" (defArgs s_whole_plan) (defBody s_whole_plan) (defScope s_whole_plan) .none kV30 dc30 pm30 an30 cd30 ct30), sl30⟩)
    (c30 : PySem.W.codeIn K cd30 "whole_plan" = true)
    (k30 : PySem.W.keepIn K (.ref f30) = true)
    (a31 : PySem.W.nsIn K mainGlobals "_law_int" = some (some (.ref f31)))
    (l31 : K.lookup f31 = some ⟨oc31, od31, .func (PySem.W.fnOf "_law_int" "_law_int" (defArgs s_law_int) (defBody s_law_int) (defScope s_law_int) .none kV31 dc31 pm31 an31 cd31 ct31), sl31⟩)
    (c31 : PySem.W.codeIn K cd31 "_law_int" = true)
    (k31 : PySem.W.keepIn K (.ref f31) = true)
    (a32 : PySem.W.nsIn K mainGlobals "_law_number" = some (some (.ref f32)))
    (l32 : K.lookup f32 = some ⟨oc32, od32, .func (PySem.W.fnOf "_law_number" "_law_number" (defArgs s_law_number) (defBody s_law_number) (defScope s_law_number) .none kV32 dc32 pm32 an32 cd32 ct32), sl32⟩)
    (c32 : PySem.W.codeIn K cd32 "_law_number" = true)
    (k32 : PySem.W.keepIn K (.ref f32) = true)
    (a33 : PySem.W.nsIn K mainGlobals "_law_said" = some (some (.ref f33)))
    (l33 : K.lookup f33 = some ⟨oc33, od33, .func (PySem.W.fnOf "_law_said" "_law_said" (defArgs s_law_said) (defBody s_law_said) (defScope s_law_said) .none kV33 dc33 pm33 an33 cd33 ct33), sl33⟩)
    (c33 : PySem.W.codeIn K cd33 "_law_said" = true)
    (k33 : PySem.W.keepIn K (.ref f33) = true)
    (a34 : PySem.W.nsIn K mainGlobals "_law_is_number" = some (some (.ref f34)))
    (l34 : K.lookup f34 = some ⟨oc34, od34, .func (PySem.W.fnOf "_law_is_number" "_law_is_number" (defArgs s_law_is_number) (defBody s_law_is_number) (defScope s_law_is_number) .none kV34 dc34 pm34 an34 cd34 ct34), sl34⟩)
    (c34 : PySem.W.codeIn K cd34 "_law_is_number" = true)
    (k34 : PySem.W.keepIn K (.ref f34) = true)
    (a35 : PySem.W.nsIn K mainGlobals "_law_due_of_ints" = some (some (.ref f35)))
    (l35 : K.lookup f35 = some ⟨oc35, od35, .func (PySem.W.fnOf "_law_due_of_ints" "_law_due_of_ints" (defArgs s_law_due_of_ints) (defBody s_law_due_of_ints) (defScope s_law_due_of_ints) .none kV35 dc35 pm35 an35 cd35 ct35), sl35⟩)
    (c35 : PySem.W.codeIn K cd35 "_law_due_of_ints" = true)
    (k35 : PySem.W.keepIn K (.ref f35) = true)
    (a36 : PySem.W.nsIn K mainGlobals "_law_due" = some (some (.ref f36)))
    (l36 : K.lookup f36 = some ⟨oc36, od36, .func (PySem.W.fnOf "_law_due" "_law_due" (defArgs s_law_due) (defBody s_law_due) (defScope s_law_due) .none kV36 dc36 pm36 an36 cd36 ct36), sl36⟩)
    (c36 : PySem.W.codeIn K cd36 "_law_due" = true)
    (k36 : PySem.W.keepIn K (.ref f36) = true)
    (a37 : PySem.W.nsIn K mainGlobals "_law_is_alike" = some (some (.ref f37)))
    (l37 : K.lookup f37 = some ⟨oc37, od37, .func (PySem.W.fnOf "_law_is_alike" "_law_is_alike" (defArgs s_law_is_alike) (defBody s_law_is_alike) (defScope s_law_is_alike) .none kV37 dc37 pm37 an37 cd37 ct37), sl37⟩)
    (c37 : PySem.W.codeIn K cd37 "_law_is_alike" = true)
    (k37 : PySem.W.keepIn K (.ref f37) = true)
    (a38 : PySem.W.nsIn K mainGlobals "_law_count_right" = some (some (.ref f38)))
    (l38 : K.lookup f38 = some ⟨oc38, od38, .func (PySem.W.fnOf "_law_count_right" "_law_count_right" (defArgs s_law_count_right) (defBody s_law_count_right) (defScope s_law_count_right) .none kV38 dc38 pm38 an38 cd38 ct38), sl38⟩)
    (c38 : PySem.W.codeIn K cd38 "_law_count_right" = true)
    (k38 : PySem.W.keepIn K (.ref f38) = true)
    (a39 : PySem.W.nsIn K mainGlobals "law" = some (some (.ref f39)))
    (l39 : K.lookup f39 = some ⟨oc39, od39, .func (PySem.W.fnOf "law" "law" (defArgs s_law) (defBody s_law) (defScope s_law) .none kV39 dc39 pm39 an39 cd39 ct39), sl39⟩)
    (c39 : PySem.W.codeIn K cd39 "law" = true)
    (k39 : PySem.W.keepIn K (.ref f39) = true)
    (g_Thrown : PySem.W.nsIn K mainGlobals "Thrown" = some (some (.ref CE)))
    (th_made : PySem.W.excInitIn K CE aeMro "ArithmeticError.__new__" = true)
    (th_over : PySem.W.excOver K CE aeMro = true)
    (th_hd : PySem.W.hasDictIn K CE = true)
    (th_sa : PySem.W.findIn K (.ref CE) "__setattr__" = some (some (.builtin "object.__setattr__")))
    (th_ex : PySem.W.subIn K (.ref CE) (.type "BaseException") = some true)
    (th_ty : PySem.W.typeIn K (.ref CE) = some (.type "type"))
    (th_kp : PySem.W.keepIn K (.ref CE) = true)
    (th_ga : PySem.W.findIn K (.ref CE) "__getattribute__" = some (some (.builtin "BaseException.__getattribute__")))
    (th_gg : PySem.W.findIn K (.ref CE) "__getattr__" = some none)
    (xn_value : PySem.W.findIn K (.ref CE) "value" = some none)
    (xn_level : PySem.W.findIn K (.ref CE) "level" = some none)
    (th_ic : PySem.W.isClsIn K CE = true)
    (th_sc : PySem.W.subIn K (.ref CE) (.ref CE) = some true)
    (b_AE : PySem.W.nsIn K mainGlobals "ArithmeticError" = some none)
    (v_AE : PySem.W.findCls K (.type "ArithmeticError") (.type "type") "__init__" = some (.val (.builtin "ArithmeticError.__init__")))
    (a99 : PySem.W.findIn K (.ref CE) "__init__" = some (some (.ref f99)))
    (l99 : K.lookup f99 = some ⟨oc99, od99, .func (PySem.W.fnOf "__init__" "Thrown.__init__" (defArgs s_Thrown_init) (defBody s_Thrown_init) (defScope s_Thrown_init) (.ref TD) kV99 dc99 pm99 an99 cd99 ct99), sl99⟩)
    (c99 : PySem.W.codeIn K cd99 "Thrown.__init__" = true)
    (k99 : PySem.W.keepIn K (.ref f99) = true)
    (i99 : PySem.W.typeIn K (.ref f99) = some (.type "function"))
    (lD : K.lookup TD = some ⟨ocD, odD, .seq [Value.int 1 tD1].toArray nD, slD⟩)
    : ∃ fd : FuncData, (∀ (s : Shared) (v : Value), BindsTo s fd ⟨[v], []⟩ [("script", v)]) ∧ ∀ base : Heap, K.In base → base.Ns mainGlobals mg → FnOk l.prog w K mg base CX0 20 fa fd ["script"] (spLaw K) := by
  have e := hfa.symm.trans (PySem.W.mg_of X G a39)
  cases e
  have T : AllP K mg CF CP CE := {
    b_isinstance := PySem.W.mg_none_of X G b_isinstance
    b_int := PySem.W.mg_none_of X G b_int
    b_str := PySem.W.mg_none_of X G b_str
    b_bool := PySem.W.mg_none_of X G b_bool
    b_abs := PySem.W.mg_none_of X G b_abs
    b_max := PySem.W.mg_none_of X G b_max
    b_min := PySem.W.mg_none_of X G b_min
    b_divmod := PySem.W.mg_none_of X G b_divmod
    b_len := PySem.W.mg_none_of X G b_len
    b_range := PySem.W.mg_none_of X G b_range
    b_zip := PySem.W.mg_none_of X G b_zip
    c_LEAST := ⟨_, PySem.W.mg_of X G c_LEAST⟩
    c_MOST := ⟨_, PySem.W.mg_of X G c_MOST⟩
    c_ROOM := ⟨_, PySem.W.mg_of X G c_ROOM⟩
    c_LOWEST := ⟨_, PySem.W.mg_of X G c_LOWEST⟩
    c_TOO_GREAT := ⟨_, PySem.W.mg_of X G c_TOO_GREAT⟩
    g_Float := PySem.W.mg_of X G g_Float
    l_Float := ⟨pg_Float, hd_Float, po_Float, sa_Float⟩
    y_Float := ⟨yc_Float, y_spec, y_takes, ym_Float⟩
    n_sign := n_sign
    n_top := n_top
    n_power := n_power
    i_Fint := i_Fint
    i_Fbool := i_Fbool
    i_Fstr := i_Fstr
    i_intF := i_intF
    i_boolF := i_boolF
    i_strF := i_strF
    i_nonF := i_nonF
    g_ForPlan := PySem.W.mg_of X G g_ForPlan
    l_ForPlan := ⟨pg_ForPlan, hd_ForPlan, po_ForPlan, sa_ForPlan⟩
    n_value := n_value
    n_stride := n_stride
    n_left := n_left
    n_limit := n_limit
    x_init := ⟨_, _, PySem.W.mg_of X G g_Float, ⟨mk_Float, a1, i1, kc_Float⟩, fun_mk (st := s_Float_init) l1 c1 k1, (fun_mk (st := s_Float_init) l1 c1 k1).binds (fun _ _ _ _ _ _ us hl => match us, hl with | [_, _, _, _], _ => rfl)⟩
    x_ForPlan := ⟨_, _, PySem.W.mg_of X G g_ForPlan, ⟨mk_ForPlan, a2, i2, kc_ForPlan⟩, fun_mk (st := s_ForPlan_init) l2 c2 k2, (fun_mk (st := s_ForPlan_init) l2 c2 k2).binds (fun _ _ _ _ _ _ us hl => match us, hl with | [_, _, _, _, _], _ => rfl)⟩
    x_is_finite := ⟨_, _, ⟨a3, i3, k3⟩, fun_mk (st := s_Float_is_finite) l3 c3 k3, (fun_mk (st := s_Float_is_finite) l3 c3 k3).binds (fun _ _ _ _ _ _ us hl => match us, hl with | [_], _ => rfl)⟩
    x_ratio := ⟨_, _, ⟨a4, i4, k4⟩, fun_mk (st := s_Float_ratio) l4 c4 k4, (fun_mk (st := s_Float_ratio) l4 c4 k4).binds (fun _ _ _ _ _ _ us hl => match us, hl with | [_], _ => rfl)⟩
    x_goes_on := ⟨_, _, ⟨a5, i5, k5⟩, fun_mk (st := s_ForPlan_goes_on) l5 c5 k5, (fun_mk (st := s_ForPlan_goes_on) l5 c5 k5).binds (fun _ _ _ _ _ _ us hl => match us, hl with | [_], _ => rfl)⟩
    x_is_plain := ⟨_, _, PySem.W.mg_of X G a6, fun_mk (st := s_is_plain) l6 c6 k6, (fun_mk (st := s_is_plain) l6 c6 k6).binds (fun _ _ _ _ _ _ us hl => match us, hl with | [_], _ => rfl)⟩
    x_reduced := ⟨_, _, PySem.W.mg_of X G a7, fun_mk (st := s_reduced) l7 c7 k7, (fun_mk (st := s_reduced) l7 c7 k7).binds (fun _ _ _ _ _ _ us hl => match us, hl with | [_, _], _ => rfl)⟩
    x_fits := ⟨_, _, PySem.W.mg_of X G a8, fun_mk (st := s_fits) l8 c8 k8, (fun_mk (st := s_fits) l8 c8 k8).binds (fun _ _ _ _ _ _ us hl => match us, hl with | [_, _], _ => rfl)⟩
    x_sign_of := ⟨_, _, PySem.W.mg_of X G a9, fun_mk (st := s_sign_of) l9 c9 k9, (fun_mk (st := s_sign_of) l9 c9 k9).binds (fun _ _ _ _ _ _ us hl => match us, hl with | [_], _ => rfl)⟩
    x_infinity := ⟨_, _, PySem.W.mg_of X G a10, fun_mk (st := s_infinity) l10 c10 k10, (fun_mk (st := s_infinity) l10 c10 k10).binds (fun _ _ _ _ _ _ us hl => match us, hl with | [_], _ => rfl)⟩
    x_nearest := ⟨_, _, PySem.W.mg_of X G a11, fun_mk (st := s_nearest) l11 c11 k11, (fun_mk (st := s_nearest) l11 c11 k11).binds (fun _ _ _ _ _ _ us hl => match us, hl with | [_, _, _], _ => rfl)⟩
    x_is_number := ⟨_, _, PySem.W.mg_of X G a12, fun_mk (st := s_is_number) l12 c12 k12, (fun_mk (st := s_is_number) l12 c12 k12).binds (fun _ _ _ _ _ _ us hl => match us, hl with | [_], _ => rfl)⟩
    x_to_float := ⟨_, _, PySem.W.mg_of X G a13, fun_mk (st := s_to_float) l13 c13 k13, (fun_mk (st := s_to_float) l13 c13 k13).binds (fun _ _ _ _ _ _ us hl => match us, hl with | [_], _ => rfl)⟩
    x_place := ⟨_, _, PySem.W.mg_of X G a14, fun_mk (st := s_place_of) l14 c14 k14, (fun_mk (st := s_place_of) l14 c14 k14).binds (fun _ _ _ _ _ _ us hl => match us, hl with | [_], _ => rfl)⟩
    x_order := ⟨_, _, PySem.W.mg_of X G a15, fun_mk (st := s_order_of) l15 c15 k15, (fun_mk (st := s_order_of) l15 c15 k15).binds (fun _ _ _ _ _ _ us hl => match us, hl with | [_, _], _ => rfl)⟩
    x_compare := ⟨_, _, PySem.W.mg_of X G a16, fun_mk (st := s_compare) l16 c16 k16, (fun_mk (st := s_compare) l16 c16 k16).binds (fun _ _ _ _ _ _ us hl => match us, hl with | [_, _, _], _ => rfl)⟩
    x_same := ⟨_, _, PySem.W.mg_of X G a17, fun_mk (st := s_same) l17 c17 k17, (fun_mk (st := s_same) l17 c17 k17).binds (fun _ _ _ _ _ _ us hl => match us, hl with | [_, _], _ => rfl)⟩
    x_well := ⟨_, _, PySem.W.mg_of X G a18, fun_mk (st := s_law_well) l18 c18 k18, (fun_mk (st := s_law_well) l18 c18 k18).binds (fun _ _ _ _ _ _ us hl => match us, hl with | [_], _ => rfl)⟩
    x_draw := ⟨_, _, PySem.W.mg_of X G a19, fun_mk (st := s_law_draw) l19 c19 k19, (fun_mk (st := s_law_draw) l19 c19 k19).binds (fun _ _ _ _ _ _ us hl => match us, hl with | [_, _], _ => rfl)⟩
    x_one := ⟨_, _, PySem.W.mg_of X G a20, fun_mk (st := s_law_one) l20 c20 k20, (fun_mk (st := s_law_one) l20 c20 k20).binds (fun _ _ _ _ _ _ us hl => match us, hl with | [_, _], _ => rfl)⟩
    x_great := ⟨_, _, PySem.W.mg_of X G a21, fun_mk (st := s_law_great) l21 c21 k21, (fun_mk (st := s_law_great) l21 c21 k21).binds (fun _ _ _ _ _ _ us hl => match us, hl with | [_, _], _ => rfl)⟩
    x_finite := ⟨_, _, PySem.W.mg_of X G a22, fun_mk (st := s_law_finite) l22 c22 k22, (fun_mk (st := s_law_finite) l22 c22 k22).binds (fun _ _ _ _ _ _ us hl => match us, hl with | [_], _ => rfl)⟩
    x_float := ⟨_, _, PySem.W.mg_of X G a23, fun_mk (st := s_law_float) l23 c23 k23, (fun_mk (st := s_law_float) l23 c23 k23).binds (fun _ _ _ _ _ _ us hl => match us, hl with | [_], _ => rfl)⟩
    x_nan := ⟨_, _, PySem.W.mg_of X G a24, fun_mk (st := s_nan) l24 c24 k24, (fun_mk (st := s_nan) l24 c24 k24).binds (fun _ _ _ _ _ _ us hl => match us, hl with | [], _ => rfl)⟩
    x_added := ⟨_, _, PySem.W.mg_of X G a25, fun_mk (st := s_added) l25 c25 k25, (fun_mk (st := s_added) l25 c25 k25).binds (fun _ _ _ _ _ _ us hl => match us, hl with | [_, _], _ => rfl)⟩
    x_by_floats := ⟨_, _, PySem.W.mg_of X G a26, fun_mk (st := s_by_floats) l26 c26 k26, (fun_mk (st := s_by_floats) l26 c26 k26).binds (fun _ _ _ _ _ _ us hl => match us, hl with | [_, _, _], _ => rfl)⟩
    x_arith := ⟨_, _, PySem.W.mg_of X G a27, fun_mk (st := s_arith) l27 c27 k27, (fun_mk (st := s_arith) l27 c27 k27).binds (fun _ _ _ _ _ _ us hl => match us, hl with | [_, _, _], _ => rfl)⟩
    x_is_within := ⟨_, _, PySem.W.mg_of X G a28, fun_mk (st := s_is_within) l28 c28 k28, (fun_mk (st := s_is_within) l28 c28 k28).binds (fun _ _ _ _ _ _ us hl => match us, hl with | [_, _, _], _ => rfl)⟩
    x_for_plan := ⟨_, _, PySem.W.mg_of X G a29, fun_mk (st := s_for_plan) l29 c29 k29, (fun_mk (st := s_for_plan) l29 c29 k29).binds (fun _ _ _ _ _ _ us hl => match us, hl with | [_, _, _], _ => rfl)⟩
    x_whole_plan := ⟨_, _, PySem.W.mg_of X G a30, fun_mk (st := s_whole_plan) l30 c30 k30, (fun_mk (st := s_whole_plan) l30 c30 k30).binds (fun _ _ _ _ _ _ us hl => match us, hl with | [_, _, _], _ => rfl)⟩
    x_int := ⟨_, _, PySem.W.mg_of X G a31, fun_mk (st := s_law_int) l31 c31 k31, (fun_mk (st := s_law_int) l31 c31 k31).binds (fun _ _ _ _ _ _ us hl => match us, hl with | [_], _ => rfl)⟩
    x_number := ⟨_, _, PySem.W.mg_of X G a32, fun_mk (st := s_law_number) l32 c32 k32, (fun_mk (st := s_law_number) l32 c32 k32).binds (fun _ _ _ _ _ _ us hl => match us, hl with | [_], _ => rfl)⟩
    x_said := ⟨_, _, PySem.W.mg_of X G a33, fun_mk (st := s_law_said) l33 c33 k33, (fun_mk (st := s_law_said) l33 c33 k33).binds (fun _ _ _ _ _ _ us hl => match us, hl with | [_, _, _], _ => rfl)⟩
    x_is_num := ⟨_, _, PySem.W.mg_of X G a34, fun_mk (st := s_law_is_number) l34 c34 k34, (fun_mk (st := s_law_is_number) l34 c34 k34).binds (fun _ _ _ _ _ _ us hl => match us, hl with | [_], _ => rfl)⟩
    x_due_ints := ⟨_, _, PySem.W.mg_of X G a35, fun_mk (st := s_law_due_of_ints) l35 c35 k35, (fun_mk (st := s_law_due_of_ints) l35 c35 k35).binds (fun _ _ _ _ _ _ us hl => match us, hl with | [_, _, _], _ => rfl)⟩
    x_due := ⟨_, _, PySem.W.mg_of X G a36, fun_mk (st := s_law_due) l36 c36 k36, (fun_mk (st := s_law_due) l36 c36 k36).binds (fun _ _ _ _ _ _ us hl => match us, hl with | [_, _, _], _ => rfl)⟩
    x_alike := ⟨_, _, PySem.W.mg_of X G a37, fun_mk (st := s_law_is_alike) l37 c37 k37, (fun_mk (st := s_law_is_alike) l37 c37 k37).binds (fun _ _ _ _ _ _ us hl => match us, hl with | [_, _], _ => rfl)⟩
    x_count := ⟨_, _, PySem.W.mg_of X G a38, fun_mk (st := s_law_count_right) l38 c38 k38, (fun_mk (st := s_law_count_right) l38 c38 k38).binds (fun _ _ _ _ _ _ us hl => match us, hl with | [_], _ => rfl)⟩
    x_law := ⟨_, _, PySem.W.mg_of X G a39, fun_mk (st := s_law) l39 c39 k39, (fun_mk (st := s_law) l39 c39 k39).binds (fun _ _ _ _ _ _ us hl => match us, hl with | [_], _ => rfl)⟩
    g_Thrown := PySem.W.mg_of X G g_Thrown
    a_Thrown := ⟨th_made, th_over, th_hd, th_sa, th_ex, th_ty, th_kp⟩
    xf_Thrown := ⟨th_ga, th_gg, th_ex, th_hd⟩
    xn_value := xn_value
    xn_level := xn_level
    e_Thrown := exm_own th_ex th_ic th_ty th_sc
    b_AE := PySem.W.mg_none_of X G b_AE
    v_AE := v_AE
  }
  exact ⟨PySem.W.fnOf "law" "law" (defArgs s_law) (defBody s_law) (defScope s_law) .none kV39 dc39 pm39 an39 cd39 ct39, fun s v => .of_eq rfl, fun base _ _ => ok_all T (thr_kn T ⟨⟨_, _, _, _, _, _, _, _, _, _, rfl, l99, c99, .inr ⟨by simp, TD, _, _, _, rfl, lD, rfl, .cons ⟨_, rfl⟩ .nil⟩, .inl rfl⟩, k99⟩ a99 i99) (fun_mk (st := s_law) l39 c39 k39)⟩
end Nu

open PySem PySem.W PyProof.Rows
set_option Elab.async false
set_option maxRecDepth 100000
set_option maxHeartbeats 0
open_top hd08 for PySem.Challenge.rw_walkmade_k08_rounds_of_numbers
theorem PySem.Challenge.cw_walkmade_k08_rounds_of_numbers_holds : PySem.Challenge.rw_walkmade_k08_rounds_of_numbers.Holds :=
  hd08 (by
  k_fill
  refine L2.walk_ofB (l := PySem.Challenge.rw_walkmade_k08_rounds_of_numbers) (n := 63) (k := 20) (x := "script") (CX := fun _ => L2.CX0) (sp := fun w => Nu.spLaw (hd08.heap_39 w.params)) rfl (by decide) rfl ⟨rfl, by decide, by decide⟩ (fun w h Y => PySem.W.kIn_of Y) ?F
    (fun w H a ns h1 h2 _ h4 => ⟨a, ns, rfl, h4, h1, fun z hz => Int.ofNat_le.2 (h2 z hz), fun _ => rfl⟩) (fun _ _ _ _ _ z => z)
  case F =>
    intro w mg fa h KX G hmg
    refine' Nu.fin_mk KX G hmg ?b_isinstance ?b_int ?b_str ?b_bool ?b_abs ?b_max ?b_min ?b_divmod ?b_len ?b_range ?b_zip ?c_LEAST ?c_MOST ?c_ROOM ?c_LOWEST ?c_TOO_GREAT ?g_Float ?pg_Float ?hd_Float ?po_Float ?sa_Float ?yc_Float ?ym_Float ?n_sign ?n_top ?n_power ?i_Fint ?i_Fbool ?i_Fstr ?i_intF ?i_boolF ?i_strF ?i_nonF ?mk_Float ?kc_Float ?g_ForPlan ?pg_ForPlan ?hd_ForPlan ?po_ForPlan ?sa_ForPlan ?yc_ForPlan ?ym_ForPlan ?n_value ?n_stride ?n_left ?n_limit ?mk_ForPlan ?kc_ForPlan ?y_spec ?y_takes ?a1 ?l1 ?c1 ?k1 ?i1 ?a2 ?l2 ?c2 ?k2 ?i2 ?a3 ?l3 ?c3 ?k3 ?i3 ?a4 ?l4 ?c4 ?k4 ?i4 ?a5 ?l5 ?c5 ?k5 ?i5 ?a6 ?l6 ?c6 ?k6 ?a7 ?l7 ?c7 ?k7 ?a8 ?l8 ?c8 ?k8 ?a9 ?l9 ?c9 ?k9 ?a10 ?l10 ?c10 ?k10 ?a11 ?l11 ?c11 ?k11 ?a12 ?l12 ?c12 ?k12 ?a13 ?l13 ?c13 ?k13 ?a14 ?l14 ?c14 ?k14 ?a15 ?l15 ?c15 ?k15 ?a16 ?l16 ?c16 ?k16 ?a17 ?l17 ?c17 ?k17 ?a18 ?l18 ?c18 ?k18 ?a19 ?l19 ?c19 ?k19 ?a20 ?l20 ?c20 ?k20 ?a21 ?l21 ?c21 ?k21 ?a22 ?l22 ?c22 ?k22 ?a23 ?l23 ?c23 ?k23 ?a24 ?l24 ?c24 ?k24 ?a25 ?l25 ?c25 ?k25 ?a26 ?l26 ?c26 ?k26 ?a27 ?l27 ?c27 ?k27 ?a28 ?l28 ?c28 ?k28 ?a29 ?l29 ?c29 ?k29 ?a30 ?l30 ?c30 ?k30 ?a31 ?l31 ?c31 ?k31 ?a32 ?l32 ?c32 ?k32 ?a33 ?l33 ?c33 ?k33 ?a34 ?l34 ?c34 ?k34 ?a35 ?l35 ?c35 ?k35 ?a36 ?l36 ?c36 ?k36 ?a37 ?l37 ?c37 ?k37 ?a38 ?l38 ?c38 ?k38 ?a39 ?l39 ?c39 ?k39 ?g_Thrown ?th_made ?th_over ?th_hd ?th_sa ?th_ex ?th_ty ?th_kp ?th_ga ?th_gg ?xn_value ?xn_level ?th_ic ?th_sc ?b_AE ?v_AE ?a99 ?l99 ?c99 ?k99 ?i99 ?lD
    (case b_isinstance => k_is)
    (case b_int => k_is)
    (case b_str => k_is)
    (case b_bool => k_is)
    (case b_abs => k_is)
    (case b_max => k_is)
    (case b_min => k_is)
    (case b_divmod => k_is)
    (case b_len => k_is)
    (case b_range => k_is)
    (case b_zip => k_is)
    (case c_LEAST => k_is)
    (case c_MOST => k_is)
    (case c_ROOM => k_is)
    (case c_LOWEST => k_is)
    (case c_TOO_GREAT => k_is)
    (case g_Float => k_is)
    (case pg_Float => k_is)
    (case hd_Float => k_is)
    (case po_Float => k_is)
    (case sa_Float => k_is)
    (case yc_Float => k_is)
    (case ym_Float => k_is)
    (case n_sign => k_is)
    (case n_top => k_is)
    (case n_power => k_is)
    (case i_Fint => kit_is)
    (case i_Fbool => kit_is)
    (case i_Fstr => kit_is)
    (case i_intF => kit_is)
    (case i_boolF => kit_is)
    (case i_strF => kit_is)
    (case i_nonF => kit_is)
    (case mk_Float => k_is)
    (case kc_Float => k_is)
    (case g_ForPlan => k_is)
    (case pg_ForPlan => k_is)
    (case hd_ForPlan => k_is)
    (case po_ForPlan => k_is)
    (case sa_ForPlan => k_is)
    (case yc_ForPlan => k_is)
    (case ym_ForPlan => k_is)
    (case n_value => k_is)
    (case n_stride => k_is)
    (case n_left => k_is)
    (case n_limit => k_is)
    (case mk_ForPlan => k_is)
    (case kc_ForPlan => k_is)
    (case y_spec => k_is)
    (case y_takes => k_is)
    (case a1 => k_is)
    (case l1 => k_is)
    (case c1 => k_is)
    (case k1 => k_is)
    (case i1 => k_is)
    (case a2 => k_is)
    (case l2 => k_is)
    (case c2 => k_is)
    (case k2 => k_is)
    (case i2 => k_is)
    (case a3 => k_is)
    (case l3 => k_is)
    (case c3 => k_is)
    (case k3 => k_is)
    (case i3 => k_is)
    (case a4 => k_is)
    (case l4 => k_is)
    (case c4 => k_is)
    (case k4 => k_is)
    (case i4 => k_is)
    (case a5 => k_is)
    (case l5 => k_is)
    (case c5 => k_is)
    (case k5 => k_is)
    (case i5 => k_is)
    (case a6 => k_is)
    (case l6 => k_is)
    (case c6 => k_is)
    (case k6 => k_is)
    (case a7 => k_is)
    (case l7 => k_is)
    (case c7 => k_is)
    (case k7 => k_is)
    (case a8 => k_is)
    (case l8 => k_is)
    (case c8 => k_is)
    (case k8 => k_is)
    (case a9 => k_is)
    (case l9 => k_is)
    (case c9 => k_is)
    (case k9 => k_is)
    (case a10 => k_is)
    (case l10 => k_is)
    (case c10 => k_is)
    (case k10 => k_is)
    (case a11 => k_is)
    (case l11 => k_is)
    (case c11 => k_is)
    (case k11 => k_is)
    (case a12 => k_is)
    (case l12 => k_is)
    (case c12 => k_is)
    (case k12 => k_is)
    (case a13 => k_is)
    (case l13 => k_is)
    (case c13 => k_is)
    (case k13 => k_is)
    (case a14 => k_is)
    (case l14 => k_is)
    (case c14 => k_is)
    (case k14 => k_is)
    (case a15 => k_is)
    (case l15 => k_is)
    (case c15 => k_is)
    (case k15 => k_is)
    (case a16 => k_is)
    (case l16 => k_is)
    (case c16 => k_is)
    (case k16 => k_is)
    (case a17 => k_is)
    (case l17 => k_is)
    (case c17 => k_is)
    (case k17 => k_is)
    (case a18 => k_is)
    (case l18 => k_is)
    (case c18 => k_is)
    (case k18 => k_is)
    (case a19 => k_is)
    (case l19 => k_is)
    (case c19 => k_is)
    (case k19 => k_is)
    (case a20 => k_is)
    (case l20 => k_is)
    (case c20 => k_is)
    (case k20 => k_is)
    (case a21 => k_is)
    (case l21 => k_is)
    (case c21 => k_is)
    (case k21 => k_is)
    (case a22 => k_is)
    (case l22 => k_is)
    (case c22 => k_is)
    (case k22 => k_is)
    (case a23 => k_is)
    (case l23 => k_is)
    (case c23 => k_is)
    (case k23 => k_is)
    (case a24 => k_is)
    (case l24 => k_is)
    (case c24 => k_is)
    (case k24 => k_is)
    (case a25 => k_is)
    (case l25 => k_is)
    (case c25 => k_is)
    (case k25 => k_is)
    (case a26 => k_is)
    (case l26 => k_is)
    (case c26 => k_is)
    (case k26 => k_is)
    (case a27 => k_is)
    (case l27 => k_is)
    (case c27 => k_is)
    (case k27 => k_is)
    (case a28 => k_is)
    (case l28 => k_is)
    (case c28 => k_is)
    (case k28 => k_is)
    (case a29 => k_is)
    (case l29 => k_is)
    (case c29 => k_is)
    (case k29 => k_is)
    (case a30 => k_is)
    (case l30 => k_is)
    (case c30 => k_is)
    (case k30 => k_is)
    (case a31 => k_is)
    (case l31 => k_is)
    (case c31 => k_is)
    (case k31 => k_is)
    (case a32 => k_is)
    (case l32 => k_is)
    (case c32 => k_is)
    (case k32 => k_is)
    (case a33 => k_is)
    (case l33 => k_is)
    (case c33 => k_is)
    (case k33 => k_is)
    (case a34 => k_is)
    (case l34 => k_is)
    (case c34 => k_is)
    (case k34 => k_is)
    (case a35 => k_is)
    (case l35 => k_is)
    (case c35 => k_is)
    (case k35 => k_is)
    (case a36 => k_is)
    (case l36 => k_is)
    (case c36 => k_is)
    (case k36 => k_is)
    (case a37 => k_is)
    (case l37 => k_is)
    (case c37 => k_is)
    (case k37 => k_is)
    (case a38 => k_is)
    (case l38 => k_is)
    (case c38 => k_is)
    (case k38 => k_is)
    (case a39 => k_is)
    (case l39 => k_is)
    (case c39 => k_is)
    (case k39 => k_is)
    (case g_Thrown => k_is)
    (case th_made => kx_is)
    (case th_over => kx_is)
    (case th_hd => k_is)
    (case th_sa => k_is)
    (case th_ex => k_is)
    (case th_ty => k_is)
    (case th_kp => k_is)
    (case th_ga => k_is)
    (case th_gg => k_is)
    (case xn_value => k_is)
    (case xn_level => k_is)
    (case th_ic => k_is)
    (case th_sc => first | rfl | k_is)
    (case b_AE => k_is)
    (case v_AE => k_is)
    (case a99 => k_is)
    (case l99 => k_is)
    (case c99 => k_is)
    (case k99 => k_is)
    (case i99 => k_is)
    (case lD => k_is)
  )
