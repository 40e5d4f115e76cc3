import PyProof.Rows.All
import Wide.All
import OpenK.AllK
import Wide.FinOn
import HandS.ForMost
import HandS.WideBits
import HandS.IsInst
import HandS.EndBits
import HandS.Codes
import HandS.Defaults
import KE.IntBitsLaws
import HandS.More
import PyProof.InstEq
import HandS.Style
import HandS.OwnEq
import HandS.ExcInit
import HandS.ExcField
import HandS.TryOnly
import KE.KExcInit
import PyProof.ExcBaseAll.ArithmeticError
import HandS.WordsExc
import PySem.Challenge.RW_walkmade_k93_whole_exact_sums
import PyProof.NeKinds
import KE.RegKIsAll
import KE.KExcLine
set_option Elab.async false
set_option linter.all false
set_option maxRecDepth 100000
set_option maxHeartbeats 4000000
/-! Readings by steps that look at the head of the goal alone. -/
namespace Rd
open PySem PySem.Spec PyProof.Rows L2

/-! ### defs of the text, packed -/
/-- the def x of the text st stands in the module -/
structure Tx (K : PySem.W.Frag) (mg : Str → Option Value) (x n : Str) (st : Stmt) (ps : List Str) : Prop where
  ex : ∃ f fd, mg x = some (.ref f) ∧ Fun K n n st f fd ∧ Binds K fd ps []
/-- the def x keeps its promise -/
structure Kn (P : Program) (w : World) (K : PySem.W.Frag) (mg : Str → Option Value) (base : Heap) (CX : CXT) (k : Nat) (x : Str) (ps : List Str) (sp : Sp) : Prop where
  ex : ∃ f fd, mg x = some (.ref f) ∧ PySem.W.keepIn K (.ref f) = true ∧ Binds K fd ps [] ∧ FnOk P w K mg base CX k f fd ps sp
/-- a method m of the class at C -/
structure KnM (P : Program) (w : World) (K : PySem.W.Frag) (mg : Str → Option Value) (base : Heap) (CX : CXT) (k : Nat) (C : Addr) (m : Str) (ps : List Str) (sp : Sp) : Prop where
  ex : ∃ f fd, Meth K C m f ∧ Binds K fd ps [] ∧ FnOk P w K mg base CX k f fd ps sp
/-- a class whose __init__ keeps its promise -/
structure KnC (P : Program) (w : World) (K : PySem.W.Frag) (mg : Str → Option Value) (base : Heap) (CX : CXT) (k : Nat) (x : Str) (C : Addr) (ps : List Str) (sp : Sp) : Prop where
  ex : ∃ f fd, mg x = some (.ref C) ∧ Mk K C f ∧ Binds K fd ps [] ∧ FnOk P w K mg base CX k f fd ps sp
/-- a method of the text -/
structure TxM (K : PySem.W.Frag) (C : Addr) (m qual : Str) (st : Stmt) (ps : List Str) : Prop where
  ex : ∃ f fd, Meth K C m f ∧ Fun K m qual st f fd ∧ Binds K fd ps []
structure TxC (K : PySem.W.Frag) (mg : Str → Option Value) (x : Str) (C : Addr) (qual : Str) (st : Stmt) (ps : List Str) : Prop where
  ex : ∃ f fd, mg x = some (.ref C) ∧ Mk K C f ∧ Fun K "__init__" qual st f fd ∧ Binds K fd ps []

section
variable {P : Program} {w : World} {K : PySem.W.Frag} {mg : Str → Option Value} {base : Heap} {CX : CXT} {k : Nat} {x : Str} {ps : List Str} {sp : Sp}
theorem Kn.mono (h : Kn P w K mg base CX k x ps sp) {j : Nat} (hj : k ≤ j) : Kn P w K mg base CX j x ps sp :=
  let ⟨f, fd, a, b, c, d⟩ := h.ex
  ⟨f, fd, a, b, c, d.mono hj⟩
theorem Tx.kn {n : Str} {st : Stmt} (t : Tx K mg x n st ps) (h : ∀ f fd, Fun K n n st f fd → FnOk P w K mg base CX k f fd ps sp) : Kn P w K mg base CX k x ps sp :=
  let ⟨f, fd, a, b, c⟩ := t.ex
  ⟨f, fd, a, b.kp, c, h f fd b⟩
theorem TxM.kn {C : Addr} {m qual : Str} {st : Stmt} (t : TxM K C m qual st ps) (h : ∀ f fd, Fun K m qual st f fd → FnOk P w K mg base CX k f fd ps sp) : KnM P w K mg base CX k C m ps sp :=
  let ⟨f, fd, a, b, c⟩ := t.ex
  ⟨f, fd, a, c, h f fd b⟩
theorem TxC.kn {C : Addr} {qual : Str} {st : Stmt} (t : TxC K mg x C qual st ps) (h : ∀ f fd, Fun K "__init__" qual st f fd → FnOk P w K mg base CX k f fd ps sp) : KnC P w K mg base CX k x C ps sp :=
  let ⟨f, fd, a, b, c, d⟩ := t.ex
  ⟨f, fd, a, b, d, h f fd c⟩
end
section
variable {X : Cx} {k j : Nat} {x : Str} {ps : List Str} {sp : Sp} {p pos apos : Pos} {e o : Expr} {es : List Expr} {t : TA} {ta : TE} {C : Addr} {m : Str}
/-- f(e, ..) -/
theorem pk (h : Kn X.prog X.w X.K X.mg X.base CX0 k x ps sp) (hr : Room j X.A) (ha : PA X (e :: es) t) (hj : k ≤ j := by decide) (hg : Gl X x := by rfl) (hdb : (x == ("__debug__" : Str)) = false := by decide)
    (he : starEach (e :: es) X.env = (false, eval e X.env) :: starEach es X.env := by rfl) (hpl : (backTo pos (starEach es X.env)).any (·.1) = false := by rfl) : PE X (.Call (.Name x p) (e :: es) [] pos) (tCall sp [] E0 t) := by
  obtain ⟨f, fd, a, b, c, d⟩ := h.ex
  exact pe_call d (hr.mono hj) hg a b c .nil pass0 ha hdb he hpl
theorem pk0 (h : Kn X.prog X.w X.K X.mg X.base CX0 k x ps sp) (hr : Room j X.A) (hj : k ≤ j := by decide) (hg : Gl X x := by rfl) (hdb : (x == ("__debug__" : Str)) = false := by decide) : PE X (.Call (.Name x p) [] [] pos) (tCall sp [] E0 tNil) := by
  obtain ⟨f, fd, a, b, c, d⟩ := h.ex
  exact pe_call0 d (hr.mono hj) hg a b c .nil pass0 hdb
/-- C(e, ..) -/
theorem pkC (h : KnC X.prog X.w X.K X.mg X.base CX0 k x C ps sp) (hr : Room j X.A) (ha : PA X (e :: es) t) (hj : k + 1 ≤ j := by decide) (hg : Gl X x := by rfl) (hdb : (x == ("__debug__" : Str)) = false := by decide)
    (he : starEach (e :: es) X.env = (false, eval e X.env) :: starEach es X.env := by rfl) (hpl : (backTo pos (starEach es X.env)).any (·.1) = false := by rfl) : PE X (.Call (.Name x p) (e :: es) [] pos) (tMake C sp [] E0 t) := by
  obtain ⟨f, fd, a, b, c, d⟩ := h.ex
  exact pe_make b d (hr.mono hj) hg a c .nil pass0 ha hdb he hpl
/-- o.m() -/
theorem pkM0 (h : KnM X.prog X.w X.K X.mg X.base CX0 k C m ps sp) (cl : Cls X.K C) (hr : Room j X.A) (ho : PE X o ta) {pl : Sem Bool}
    (ht : eval (.Call (.Attribute o m apos) [] [] pos) X.env = (do
      let ov ← eval o X.env
      standAt apos.atName
      let (f, first) ← holding [ov] (getMethod ov m pl)
      callWith pos f first (backTo pos (starEach [] X.env)) (backToKw pos (keywordEach [] X.env)))) (hj : k ≤ j := by decide) :
    PE X (.Call (.Attribute o m apos) [] [] pos) (tMeth C m sp [] E0 ta tNil) := by
  obtain ⟨f, fd, a, b, d⟩ := h.ex
  exact pe_meth0 ho cl a d (hr.mono hj) b .nil pass0 ht
/-- a class or a constant of the module, as a value -/
theorem pg (x : Str) {v : V} {u : Value} (hm : X.mg x = some u) (r : RelV v u) (hg : Gl X x := by rfl) (hd : (x == ("__debug__" : Str)) = false := by decide) : PE X (.Name x pos) (tC v) := pe_glob hg hm r hd
end
/-- v is .int, .str, .non, .bl -/
theorem rty (n : String) : RelV (.ty n) (.type n) := rfl
theorem rref (a : Addr) : RelV (.ref a) (.ref a) := rfl

/-! ### what is wanted, by the head of the goal -/
section
variable {σ : L2.St} {H : Hp} {Q : VK} {ta tb te : TE} {x y v : V} {r : R2} {K : PySem.W.Frag}
theorem w_var {i : Nat} (h : σ[i]? = some (some v)) (q : Q v H) : tVar i σ H Q := ⟨v, h, q⟩
theorem w_c (q : Q v H) : tC v σ H Q := q
theorem w_op (h : ta σ H fun x H1 => tb σ H1 fun y H2 => r x y H2 Q) : tOp r ta tb σ H Q := h
theorem w_un {r : V → Hp → VK → Prop} (h : ta σ H fun x H1 => r x H1 Q) : tUn r ta σ H Q := h
theorem w_I0 {g : Int → Int → V} {i j : Int} (q : Q (g i j) H) : rI0 g (.int i) (.int j) H Q := ⟨i, j, rfl, rfl, q⟩
theorem w_I {C : Int → Int → Prop} {g : Int → Int → V} {i j : Int} (c : C i j) (q : Q (g i j) H) : rI C g (.int i) (.int j) H Q := ⟨i, j, rfl, rfl, c, q⟩
theorem w_U {g : Int → V} {i : Int} (q : Q (g i) H) : rU g (.int i) H Q := ⟨i, rfl, q⟩
theorem w_eq (s : scal x y = true) (q : Q (.bl (decide (x = y))) H) : rEq x y H Q := ⟨s, q⟩
theorem w_ne (s : scal x y = true) (q : Q (.bl (!decide (x = y))) H) : rNe x y H Q := ⟨s, q⟩
theorem w_bits (h : te σ H fun x H1 => ∃ i, x = .int i ∧ Q (.int (Builtin.Int.intBits i : Nat)) H1) : tBits te σ H Q := h
theorem w_bitsI {R : Int → Prop} {i : Int} (q : R i) : ∃ i', V.int i = .int i' ∧ R i' := ⟨i, rfl, q⟩
def TupK (xs : List V) (H : Hp) (Q : VK) : Prop := xs.length ≤ sizeLine ∧ ∀ p, H p = none → Q (.ref p) (upd H p (.tup xs))
def LstK (xs : List V) (H : Hp) (Q : VK) : Prop := xs.length ≤ sizeLine ∧ ∀ p, H p = none → Q (.ref p) (upd H p (.lst xs))
theorem w_tup {t : TA} (h : t σ H fun xs H1 => TupK xs H1 Q) : tTup t σ H Q := h
theorem w_lst {t : TA} (h : t σ H fun xs H1 => LstK xs H1 Q) : tLst t σ H Q := h
theorem w_nil {Q : List V → Hp → Prop} (q : Q [] H) : tNil σ H Q := q
theorem w_cons {ta : TE} {tr : TA} {Q : List V → Hp → Prop} (h : ta σ H fun x H1 => tr σ H1 fun xs H2 => Q (x :: xs) H2) : tCons ta tr σ H Q := h
theorem w_fld {f : Str} (h : ta σ H fun x H1 => ∃ a C dx fs v, x = .ref a ∧ H1 a = some (.ins C dx fs) ∧ Cls K C ∧ NoAttr K C f ∧ fs.lookup f = some v ∧ Q v H1) : tFld K ta f σ H Q := h
theorem w_fldI {R : V → Prop} {f : Str} {a C dx : Addr} {fs : List (Str × V)} (ho : H a = some (.ins C dx fs)) (c : Cls K C) (n : NoAttr K C f) (l : fs.lookup f = some v) (q : R v) :
    ∃ a' C dx fs v, V.ref a = .ref a' ∧ H a' = some (.ins C dx fs) ∧ Cls K C ∧ NoAttr K C f ∧ fs.lookup f = some v ∧ R v := ⟨a, C, dx, fs, v, rfl, ho, c, n, l, q⟩
theorem w_sfI {R : Addr → Addr → List (Str × V) → Addr → Prop} {f : Str} {a C dx : Addr} {fs : List (Str × V)} (ho : H a = some (.ins C dx fs)) (c : Cls K C) (n : NoAttr K C f) (l : fs.length < 1000) (q : R a dx fs C) :
    ∃ a' C dx fs, V.ref a = .ref a' ∧ H a' = some (.ins C dx fs) ∧ Cls K C ∧ NoAttr K C f ∧ fs.length < 1000 ∧ R a' dx fs C := ⟨a, C, dx, fs, rfl, ho, c, n, l, q⟩
theorem w_call {sp : Sp} {dvs : List V} {E : XK} {t : TA} (h : t σ H fun vs H1 => sp (vs ++ dvs) H1 Q E) : tCall sp dvs E t σ H Q := h
def MakeK (C : Addr) (sp : Sp) (vs : List V) (H1 : Hp) (Q : VK) (E : XK) : Prop := ∀ x dx, H1 x = none → H1 dx = none → dx ≠ x → sp (.ref x :: (vs ++ [])) (upd (upd H1 dx (.own x)) x (.ins C dx [])) (fun v H2 => v = .non ∧ Q (.ref x) H2) E
theorem w_make {C : Addr} {sp : Sp} {E : XK} {t : TA} (h : t σ H fun vs H1 => MakeK C sp vs H1 Q E) : tMake C sp [] E t σ H Q := h
theorem w_cb {r : List V → Hp → VK → Prop} {t : TA} (h : t σ H fun vs H1 => r vs H1 Q) : tCB r t σ H Q := h
theorem w_bl {R : Bool → Prop} {k : Bool} (q : R k) : ∃ k', V.bl k = .bl k' ∧ R k' := ⟨k, rfl, q⟩
theorem w_test {Q : Bool → Hp → Prop} (h : te σ H fun x H' => ∃ k, x = .bl k ∧ Q k H') : tTest te σ H Q := h
theorem w_B {Q : Bool → Hp → Prop} (h : te σ H fun x H' => ∃ k, x = .bl k ∧ Q k H') : tB te σ H Q := h
theorem w_andV (h : ta σ H fun x H1 => ∃ c, x = .bl c ∧ if c = true then tb σ H1 Q else Q (.bl false) H1) : tAndV ta tb σ H Q := h
theorem w_orV (h : ta σ H fun x H1 => ∃ c, x = .bl c ∧ if c = true then Q (.bl true) H1 else tb σ H1 Q) : tOrV ta tb σ H Q := h
theorem w_notV (h : ta σ H fun x H1 => ∃ c, x = .bl c ∧ Q (.bl (!c)) H1) : tNotV ta σ H Q := h
theorem w_and {t u : TT} {Q : Bool → Hp → Prop} (h : t σ H fun c H1 => if c = true then u σ H1 Q else Q false H1) : tAnd t u σ H Q := h
theorem w_or {t u : TT} {Q : Bool → Hp → Prop} (h : t σ H fun c H1 => if c = true then Q true H1 else u σ H1 Q) : tOr t u σ H Q := h
theorem w_not {t : TT} {Q : Bool → Hp → Prop} (h : t σ H fun c H1 => Q (!c) H1) : tNot t σ H Q := h
theorem w_if {t : TT} (h : t σ H fun c H1 => if c = true then ta σ H1 Q else tb σ H1 Q) : tIf t ta tb σ H Q := h
theorem w_isi {x c : V} {t u : Value} {b : Bool} (k : ClsV c u) (ty : TyX K H x t) (e : PySem.W.kitOne K t u = some b) (q : Q (.bl b) H) : rIsi K [x, c] H Q := ⟨x, c, t, u, b, rfl, k, ty, e, q⟩
/-! statements -/
variable {D : Ends} {t u : TS} {n bk ct : L2.St → Hp → Prop} {rt : VK}
theorem w_nx (q : n σ H) : (Ends.mk n rt bk ct).nx σ H := q
theorem w_rt (q : rt v H) : (Ends.mk n rt bk ct).rt v H := q
theorem w_bk (q : bk σ H) : (Ends.mk n rt bk ct).bk σ H := q
theorem w_ct (q : ct σ H) : (Ends.mk n rt bk ct).ct σ H := q
theorem w_seq (h : t { D with nx := u D } σ H) : tSeq t u D σ H := h
theorem w_cut {Mid : L2.St → Hp → Prop} (h1 : t { D with nx := Mid } σ H) (h2 : ∀ σ' H', Mid σ' H' → u D σ' H') : C8.tCut t u D σ H := ⟨Mid, h1, h2⟩
theorem w_next (h : D.nx σ H) : tNext D σ H := h
theorem w_brk (h : D.bk σ H) : tBreak D σ H := h
theorem w_cont (h : D.ct σ H) : tCont D σ H := h
theorem w_ret (h : te σ H D.rt) : tRet te D σ H := h
theorem w_ifS {c : TT} (h : c σ H fun b H1 => if b = true then t D σ H1 else u D σ H1) : tIfS c t u D σ H := h
theorem w_asg {g : TG} (h : te σ H fun x H1 => g x σ H1 D.nx) : tAsg te g D σ H := h
theorem w_name {i : Nat} {Q : L2.St → Hp → Prop} (h : Q (σ.set i (some v)) H) : gName i v σ H Q := h
theorem w_par {i j : Nat} {ta : TA} (h : ta σ H fun vs H1 => ∃ v w, vs = [v, w] ∧ D.nx ((σ.set i (some v)).set j (some w)) H1) : tPar i j ta D σ H := h
theorem w_parI {R : V → V → Prop} {v w : V} (h : R v w) : ∃ v' w', [v, w] = [v', w'] ∧ R v' w' := ⟨v, w, rfl, h⟩
theorem w_ii {R : Int → Int → Prop} {a b : Int} (h : R a b) : ∃ i j, [V.int a, V.int b] = [V.int i, V.int j] ∧ R i j := ⟨a, b, rfl, h⟩
theorem w_i1 {R : Int → Prop} {a : Int} (h : R a) : ∃ i, [V.int a] = [V.int i] ∧ R i := ⟨a, rfl, h⟩
theorem w_drop (h : te σ H fun _ H1 => D.nx σ H1) : tDrop te D σ H := h
theorem w_sFld {tv : TE} {f : Str} (h : tv σ H fun y H1 => ta σ H1 fun x H2 => ∃ a C dx fs, x = .ref a ∧ H2 a = some (.ins C dx fs) ∧ Cls K C ∧ NoAttr K C f ∧ fs.length < 1000 ∧ D.nx σ (upd H2 a (.ins C dx (putF f y fs)))) : sFld K ta tv f D σ H := h
theorem iT {A B : Prop} (h : A) : if true = true then A else B := by rw [if_pos rfl]; exact h
theorem iF {A B : Prop} (h : B) : if false = true then A else B := by rw [if_neg Bool.false_ne_true]; exact h
theorem iD {c : Prop} [Decidable c] {A B : Prop} (h1 : c → A) (h2 : ¬ c → B) : if decide c = true then A else B := by
  by_cases h : c
  · rw [decide_eq_true h]; exact iT (h1 h)
  · rw [decide_eq_false h]; exact iF (h2 h)
theorem iN {c : Prop} [Decidable c] {A B : Prop} (h1 : ¬ c → A) (h2 : c → B) : if (!decide c) = true then A else B := by
  by_cases h : c
  · rw [decide_eq_true h]; exact iF (h2 h)
  · rw [decide_eq_false h]; exact iT (h1 h)
theorem iB {b : Bool} {A B : Prop} (h1 : b = true → A) (h2 : b = false → B) : if b = true then A else B := by
  cases b with
  | true => exact iT (h1 rfl)
  | false => exact iF (h2 rfl)
end
end Rd
open Rd L2 in
section
local macro_rules | `(tactic| walk_at "rd") => `(tactic| first
  | with_reducible refine w_var rfl ?_
  | with_reducible refine w_c ?_
  | with_reducible refine w_op ?_)
end

set_option Elab.async false
set_option linter.all false
set_option maxRecDepth 100000
set_option maxHeartbeats 4000000
/-! The numbers of the program as plain functions. -/
namespace Nu
open PySem L2
abbrev bits (n : Int) : Int := (Builtin.Int.intBits n : Nat)
theorem bits_nn (n : Int) : 0 ≤ bits n := Int.natCast_nonneg _
theorem bits_le {n : Int} {k : Nat} : bits n ≤ k ↔ n.natAbs < 2 ^ k := by
  unfold bits
  rw [Int.ofNat_le]
  exact PySem.intBits_le_iff
theorem bits_zero : bits 0 = 0 := rfl
theorem pow_pos2 (k : Nat) : (0 : Int) < 2 ^ k := Int.pow_pos (by decide)
theorem pow_mono {a b : Nat} (h : a ≤ b) : (2 : Int) ^ a ≤ 2 ^ b := by
  have e : b = a + (b - a) := by omega
  rw [e, Int.pow_add]
  have h1 := pow_pos2 a
  have h2 := pow_pos2 (b - a)
  have := Int.mul_le_mul_of_nonneg_left (show (1 : Int) ≤ 2 ^ (b - a) by omega) (Int.le_of_lt h1)
  omega
theorem pow_cast (k : Nat) : ((2 ^ k : Nat) : Int) = 2 ^ k := by simp
theorem bits_lt_pow {n : Int} (h : 0 ≤ n) {k : Nat} : bits n ≤ k ↔ n < 2 ^ k := by
  rw [bits_le]
  have e := pow_cast k
  omega
/-- 2 ^ (bits n - 1) ≤ n < 2 ^ bits n -/
theorem lt_pow_bits {n : Int} (h : 0 ≤ n) : n < 2 ^ (Builtin.Int.intBits n) := (bits_lt_pow h).1 (Int.le_refl _)
theorem pow_bits_le {n : Int} (h : 0 < n) : (2 : Int) ^ (Builtin.Int.intBits n - 1) ≤ n := by
  have hb : Builtin.Int.intBits n ≠ 0 := by
    intro e
    have := lt_pow_bits (n := n) (by omega)
    rw [e] at this
    simp at this
    omega
  have h2 : ¬ bits n ≤ ((Builtin.Int.intBits n - 1 : Nat) : Int) := by
    unfold bits
    omega
  rw [bits_lt_pow (by omega)] at h2
  omega
theorem bits_pos {n : Int} (h : 0 < n) : 0 < Builtin.Int.intBits n := by
  have := lt_pow_bits (n := n) (by omega)
  rcases Nat.eq_zero_or_pos (Builtin.Int.intBits n) with e | e
  · rw [e] at this; simp at this; omega
  · exact e
/-- bits by its bounds -/
theorem bits_eq {n : Int} {k : Nat} (h1 : (2 : Int) ^ k ≤ n) (h2 : n < 2 ^ (k + 1)) : bits n = k + 1 := by
  have p := pow_pos2 k
  have a : bits n ≤ ((k + 1 : Nat) : Int) := (bits_lt_pow (by omega)).2 h2
  have b : ¬ bits n ≤ ((k : Nat) : Int) := by rw [bits_lt_pow (by omega)]; omega
  omega
theorem bits_shift {n : Int} (h : 0 < n) (k : Nat) : bits (n * 2 ^ k) = bits n + k := by
  have hp := bits_pos h
  have h1 := pow_bits_le h
  have h2 := lt_pow_bits (n := n) (by omega)
  have pk := pow_pos2 k
  have e : Builtin.Int.intBits n - 1 + 1 = Builtin.Int.intBits n := by omega
  have a1 : (2 : Int) ^ (Builtin.Int.intBits n - 1 + k) ≤ n * 2 ^ k := by
    rw [Int.pow_add]
    exact Int.mul_le_mul_of_nonneg_right h1 (by omega)
  have a2 : n * 2 ^ k < 2 ^ (Builtin.Int.intBits n - 1 + k + 1) := by
    rw [show Builtin.Int.intBits n - 1 + k + 1 = Builtin.Int.intBits n + k by omega, Int.pow_add]
    exact Int.mul_lt_mul_of_pos_right h2 pk
  rw [bits_eq a1 a2]
  unfold bits
  omega
theorem bits_mono {a b : Int} (h0 : 0 ≤ a) (h : a ≤ b) : bits a ≤ bits b := by
  have := lt_pow_bits (n := b) (by omega)
  exact (bits_lt_pow h0).2 (by omega)

/-! ### the lowest bit -/
theorem nat_low (k j : Nat) : (2 ^ k * (2 * j + 1)) &&& (2 ^ k * (2 * j + 1) - 1) = 2 ^ (k + 1) * j := by
  have hp : 0 < 2 ^ k := Nat.two_pow_pos k
  have e1 : 2 ^ k * (2 * j + 1) = 2 ^ (k + 1) * j + 2 ^ k := by
    rw [Nat.pow_succ, Nat.mul_add, Nat.mul_one, Nat.mul_assoc]
  have e2 : 2 ^ k * (2 * j + 1) - 1 = 2 ^ (k + 1) * j + (2 ^ k - 1) := by rw [e1]; omega
  have l1 : 2 ^ k < 2 ^ (k + 1) := by rw [Nat.pow_succ]; omega
  have l2 : 2 ^ k - 1 < 2 ^ (k + 1) := by omega
  rw [e2]
  conv => lhs; lhs; rw [e1]
  apply Nat.eq_of_testBit_eq
  intro i
  rw [Nat.testBit_and, Nat.testBit_two_pow_mul_add _ l1, Nat.testBit_two_pow_mul_add _ l2]
  have e3 : 2 ^ (k + 1) * j = 2 ^ (k + 1) * j + 0 := rfl
  rw [e3, Nat.testBit_two_pow_mul_add _ (Nat.two_pow_pos _)]
  by_cases hi : i < k + 1
  · rw [if_pos hi, if_pos hi, if_pos hi, Nat.testBit_two_pow, Nat.testBit_two_pow_sub_one, Nat.zero_testBit]
    by_cases hk : k = i
    · subst hk; simp
    · simp [hk]
  · rw [if_neg hi, if_neg hi, if_neg hi, Bool.and_self]
theorem nat_odd : ∀ n : Nat, 0 < n → ∃ k j : Nat, n = 2 ^ k * (2 * j + 1) := by
  intro n
  induction n using Nat.strongRecOn with
  | ind n ih =>
    intro h
    by_cases c : n % 2 = 1
    · exact ⟨0, n / 2, by simp; omega⟩
    · obtain ⟨k, j, e⟩ := ih (n / 2) (by omega) (by omega)
      refine ⟨k + 1, j, ?_⟩
      have e2 : n = 2 * (n / 2) := by omega
      rw [e2, e, Nat.pow_succ]
      rw [Nat.mul_comm (2 ^ k) 2, Nat.mul_assoc]
/-- what (top & -top).bit_length() - 1 is -/
def less (t : Int) : Int := bits (Builtin.bitAnd t (0 - t)) - 1
theorem less_spec {t : Int} (h : 0 < t) : ∃ (k : Nat) (m : Int), 0 ≤ m ∧ t = 2 ^ k * (2 * m + 1) ∧ less t = k := by
  obtain ⟨n, rfl⟩ := Int.eq_ofNat_of_zero_le (Int.le_of_lt h)
  obtain ⟨k, j, e⟩ := nat_odd n (by omega)
  have hp : 0 < 2 ^ k := Nat.two_pow_pos k
  refine ⟨k, j, Int.natCast_nonneg _, ?_, ?_⟩
  · rw [e]
    simp
  · have a : decide (0 ≤ (n : Int)) = true := decide_eq_true (Int.natCast_nonneg _)
    have b : decide (0 ≤ (0 - (n : Int))) = false := decide_eq_false (by omega)
    have c : Builtin.bitNot (0 - (n : Int)) = ((n - 1 : Nat) : Int) := by
      show -(0 - (n : Int)) - 1 = _
      omega
    have d : Builtin.bitAnd (n : Int) (0 - (n : Int)) = 2 ^ k := by
      unfold Builtin.bitAnd
      rw [a, b]
      show (n : Int) - ((((n : Int).toNat &&& (Builtin.bitNot (0 - (n : Int))).toNat : Nat)) : Int) = 2 ^ k
      rw [c, Int.toNat_natCast, Int.toNat_natCast, e, nat_low]
      have e1 : 2 ^ k * (2 * j + 1) = 2 ^ (k + 1) * j + 2 ^ k := by
        rw [Nat.pow_succ, Nat.mul_add, Nat.mul_one, Nat.mul_assoc]
      rw [e1, ← pow_cast k]
      omega
    unfold less
    rw [d, bits_eq (k := k) (Int.le_refl _) (by rw [Int.pow_succ]; have := pow_pos2 k; omega)]
    omega
/-- top and power with an odd top -/
def red (t p : Int) : Int × Int := if t = 0 then (0, 0) else (t / 2 ^ (less t).toNat, p + less t)
theorem red_zero (p : Int) : red 0 p = (0, 0) := if_pos rfl
theorem red_spec {t : Int} (h : 0 < t) (p : Int) : ∃ (k : Nat) (m : Int), 0 ≤ m ∧ t = 2 ^ k * (2 * m + 1) ∧ red t p = (2 * m + 1, p + k) := by
  obtain ⟨k, m, hm, e, l⟩ := less_spec h
  refine ⟨k, m, hm, e, ?_⟩
  unfold red
  rw [if_neg (by omega), l, Int.toNat_natCast]
  have : t / 2 ^ k = 2 * m + 1 := by
    rw [e]
    exact Int.mul_ediv_cancel_left _ (by have := pow_pos2 k; omega)
  rw [this]
def fitsB (t p : Int) : Bool := (decide (t < 9007199254740992) && (decide (-1074 ≤ p) && decide (bits t + p ≤ 1024))) || decide (t = 0)
theorem pow53 : (9007199254740992 : Int) = 2 ^ 53 := by decide
/-- what nearest hands to Float fits -/
theorem red_fits {t p : Int} (h0 : 0 ≤ t) (h1 : t ≤ 9007199254740992) (h2 : -1074 ≤ p) (h3 : bits t + p ≤ 1024) : fitsB (red t p).1 (red t p).2 = true := by
  by_cases z : t = 0
  · subst z; rw [red_zero]; decide
  · obtain ⟨k, m, hm, e, r⟩ := red_spec (t := t) (by omega) p
    rw [r]
    have pk := pow_pos2 k
    have hlt : 2 * m + 1 < 9007199254740992 := by
      by_cases k0 : k = 0
      · subst k0
        simp at e
        omega
      · have p2 : (2 : Int) ≤ 2 ^ k := by
          obtain ⟨j, rfl⟩ : ∃ j, k = j + 1 := ⟨k - 1, by omega⟩
          rw [Int.pow_succ]
          have := pow_pos2 j
          omega
        have : 2 * (2 * m + 1) ≤ 2 ^ k * (2 * m + 1) := Int.mul_le_mul_of_nonneg_right p2 (by omega)
        omega
    have hb : bits t = bits (2 * m + 1) + k := by
      rw [e, Int.mul_comm]
      exact bits_shift (by omega) k
    unfold fitsB
    rw [decide_eq_true hlt, decide_eq_true (show -1074 ≤ p + (k : Int) by omega), decide_eq_true (show bits (2 * m + 1) + (p + (k : Int)) ≤ 1024 by omega)]
    rfl
end Nu

set_option Elab.async false
set_option linter.all false
set_option maxRecDepth 100000
set_option maxHeartbeats 4000000
set_option autoImplicit false
namespace Nu
open PySem L2
def pw (t b : Int) : Int := if -1074 > bits t - bits b - 53 then -1074 else bits t - bits b - 53
def t1 (t b : Int) : Int := if pw t b < 0 then t * 2 ^ (0 - pw t b).toNat else t
def b1 (t b : Int) : Int := if pw t b < 0 then b else b * 2 ^ (pw t b).toNat
def b2 (t b : Int) : Int := if 9007199254740992 ≤ t1 t b / b1 t b then b1 t b * 2 ^ (1 : Int).toNat else b1 t b
def p2 (t b : Int) : Int := if 9007199254740992 ≤ t1 t b / b1 t b then pw t b + 1 else pw t b
def wq (t b : Int) : Int := t1 t b / b2 t b
def wr (t b : Int) : Int := t1 t b % b2 t b
def goesUp (t b : Int) : Prop := b2 t b < 2 * wr t b ∨ (2 * wr t b = b2 t b ∧ Builtin.bitAnd (wq t b) 1 = 1)
instance (t b : Int) : Decidable (goesUp t b) := inferInstanceAs (Decidable (_ ∨ _))
def wh (t b : Int) : Int := if goesUp t b then wq t b + 1 else wq t b
section
variable {t b : Int}
theorem pw_ge : -1074 ≤ pw t b := by unfold pw; split <;> omega
theorem pw_ge2 : bits t - bits b - 53 ≤ pw t b := by unfold pw; split <;> omega
theorem pw_le (h : bits t ≤ 3300) : pw t b ≤ 3300 := by
  have := bits_nn b
  unfold pw; split <;> omega
theorem bits_mul_pow {n : Int} (h : 0 ≤ n) (k : Nat) : bits (n * 2 ^ k) ≤ bits n + k := by
  by_cases z : n = 0
  · subst z; rw [Int.zero_mul, bits_zero]; omega
  · rw [bits_shift (by omega)]; omega
theorem t1_nn (h : 0 ≤ t) : 0 ≤ t1 t b := by
  unfold t1
  split
  · exact Int.mul_nonneg h (Int.le_of_lt (pow_pos2 _))
  · exact h
theorem b1_pos (h : 0 < b) : 0 < b1 t b := by
  unfold b1
  split
  · exact h
  · exact Int.mul_pos h (pow_pos2 _)
theorem b2_pos (h : 0 < b) : 0 < b2 t b := by
  have := b1_pos (t := t) h
  unfold b2
  split
  · exact Int.mul_pos this (pow_pos2 _)
  · exact this
theorem t1_bits (h : 0 ≤ t) (hb : bits t ≤ 3300) : bits (t1 t b) ≤ 4374 := by
  unfold t1
  split
  · have := bits_mul_pow h (0 - pw t b).toNat
    have := pw_ge (t := t) (b := b)
    omega
  · omega
theorem t1_bits2 (h : 0 ≤ t) (hb : bits t ≤ 3300) (hb2 : bits b ≤ 3300) : bits (t1 t b) ≤ 3400 := by
  unfold t1
  split
  · have := bits_mul_pow h (0 - pw t b).toNat
    have := pw_ge2 (t := t) (b := b)
    omega
  · omega
theorem b1_bits (h : 0 < b) (ht : bits t ≤ 3300) (hb : bits b ≤ 3300) : bits (b1 t b) ≤ 6600 := by
  unfold b1
  split
  · omega
  · have := bits_mul_pow (n := b) (by omega) (pw t b).toNat
    have := pw_le (t := t) (b := b) ht
    omega
theorem b2_bits (h : 0 < b) (ht : bits t ≤ 3300) (hb : bits b ≤ 3300) : bits (b2 t b) ≤ 6601 := by
  have h1 := b1_bits h ht hb
  unfold b2
  split
  · have := bits_mul_pow (n := b1 t b) (by have := b1_pos (t := t) h; omega) (1 : Int).toNat
    have e : (((1 : Int).toNat : Nat) : Int) = 1 := rfl
    omega
  · omega
theorem p2_ge : -1074 ≤ p2 t b := by
  have := pw_ge (t := t) (b := b)
  unfold p2
  split <;> omega
/-- the quotient ahead of rounding has at most 54 bits -/
theorem t1_lt (ht : 0 ≤ t) (hb : 0 < b) : t1 t b < 18014398509481984 * b1 t b := by
  have h1 := lt_pow_bits (n := t) ht
  have h2 := pow_bits_le hb
  have hm := bits_pos hb
  have g := pw_ge2 (t := t) (b := b)
  have e54 : (18014398509481984 : Int) = 2 ^ 54 := by decide
  rw [e54]
  unfold bits at g
  generalize hn : Builtin.Int.intBits t = n at *
  generalize hk : Builtin.Int.intBits b = m at *
  unfold t1 b1
  split
  · rename_i c
    have a1 : t * 2 ^ (0 - pw t b).toNat < 2 ^ n * 2 ^ (0 - pw t b).toNat := Int.mul_lt_mul_of_pos_right h1 (pow_pos2 _)
    rw [← Int.pow_add] at a1
    have a2 : (2 : Int) ^ (n + (0 - pw t b).toNat) ≤ 2 ^ (54 + (m - 1)) := pow_mono (by omega)
    have a3 : (2 : Int) ^ (54 + (m - 1)) ≤ 2 ^ 54 * b := by
      rw [Int.pow_add]
      exact Int.mul_le_mul_of_nonneg_left h2 (by decide)
    omega
  · rename_i c
    have a2 : (2 : Int) ^ n ≤ 2 ^ (54 + (m - 1) + (pw t b).toNat) := pow_mono (by omega)
    have a3 : (2 : Int) ^ (54 + (m - 1) + (pw t b).toNat) ≤ 2 ^ 54 * (b * 2 ^ (pw t b).toNat) := by
      rw [Int.pow_add, Int.pow_add, Int.mul_assoc]
      exact Int.mul_le_mul_of_nonneg_left (Int.mul_le_mul_of_nonneg_right h2 (Int.le_of_lt (pow_pos2 _))) (by decide)
    omega
theorem wq_nn (ht : 0 ≤ t) (hb : 0 < b) : 0 ≤ wq t b := Int.ediv_nonneg (t1_nn ht) (Int.le_of_lt (b2_pos hb))
theorem wq_lt (ht : 0 ≤ t) (hb : 0 < b) : wq t b < 9007199254740992 := by
  have h := t1_lt ht hb
  have h1 := b1_pos (t := t) hb
  unfold wq b2
  split
  · have e : b1 t b * 2 ^ (1 : Int).toNat = 2 * b1 t b := by
      show b1 t b * 2 = _
      omega
    rw [e]
    refine Int.ediv_lt_of_lt_mul (by omega) ?_
    omega
  · omega
theorem wr_nn (hb : 0 < b) : 0 ≤ wr t b := Int.emod_nonneg _ (by have := b2_pos (t := t) hb; omega)
theorem wr_lt (hb : 0 < b) : wr t b < b2 t b := Int.emod_lt_of_pos _ (b2_pos hb)
theorem wh_nn (ht : 0 ≤ t) (hb : 0 < b) : 0 ≤ wh t b := by
  have := wq_nn ht hb
  unfold wh; split <;> omega
theorem wh_le (ht : 0 ≤ t) (hb : 0 < b) : wh t b ≤ 9007199254740992 := by
  have := wq_lt ht hb
  unfold wh; split <;> omega
theorem wh_fits (ht : 0 ≤ t) (hb : 0 < b) (h : bits (wh t b) + p2 t b ≤ 1024) : fitsB (red (wh t b) (p2 t b)).1 (red (wh t b) (p2 t b)).2 = true :=
  red_fits (wh_nn ht hb) (wh_le ht hb) p2_ge h
end
end Nu

set_option Elab.async false
set_option linter.all false
set_option maxRecDepth 100000
set_option maxHeartbeats 4000000
set_option autoImplicit false
/-! The float that nearest tells is the nearest one. -/
namespace Nu
open PySem L2
/-- 2 ^ (e + 3000) -/
def G (e : Int) : Int := 2 ^ (e + 3000).toNat
theorem G_pos (e : Int) : 0 < G e := pow_pos2 _
theorem G_add {e : Int} (k : Nat) (h : -3000 ≤ e) : G (e + k) = 2 ^ k * G e := by
  unfold G
  rw [← Int.pow_add]
  congr 1
  omega
theorem G_succ {e : Int} (h : -3000 ≤ e) : G (e + 1) = 2 * G e := G_add 1 h
theorem G_pred {e : Int} (h : -2999 ≤ e) : G e = 2 * G (e - 1) := by
  have := G_succ (e := e - 1) (by omega)
  rwa [show e - 1 + 1 = e by omega] at this
theorem G_le {e f : Int} (h : e ≤ f) : G e ≤ G f := pow_mono (by omega)
/-- a number times a power of two, as a fraction -/
def sc (n e : Int) : Int × Int := if 0 ≤ e then (n * 2 ^ e.toNat, 1) else (n, 2 ^ (0 - e).toNat)
theorem sc_cmp (t b n e : Int) (h : -3000 ≤ e) : ∃ F, 0 < F ∧ (t * (sc n e).2 - (sc n e).1 * b) * F = t * G 0 - n * (G e * b) := by
  unfold sc
  split
  · refine ⟨G 0, G_pos 0, ?_⟩
    have e1 : G e = 2 ^ e.toNat * G 0 := by
      have := G_add (e := 0) e.toNat (by decide)
      rwa [show (0 : Int) + (e.toNat : Int) = e by omega] at this
    show (t * 1 - n * 2 ^ e.toNat * b) * G 0 = _
    rw [e1]
    generalize (2 : Int) ^ e.toNat = a
    generalize G 0 = u
    rw [Int.sub_mul, Int.mul_one]
    congr 1
    simp only [Int.mul_assoc, Int.mul_comm, Int.mul_left_comm]
  · refine ⟨G e, G_pos e, ?_⟩
    have e1 : G 0 = 2 ^ (0 - e).toNat * G e := by
      have := G_add (e := e) (0 - e).toNat h
      rwa [show e + ((0 - e).toNat : Int) = 0 by omega] at this
    show (t * 2 ^ (0 - e).toNat - n * b) * G e = _
    rw [e1]
    generalize (2 : Int) ^ (0 - e).toNat = a
    generalize G e = u
    rw [Int.sub_mul]
    congr 1
    · simp only [Int.mul_assoc, Int.mul_comm, Int.mul_left_comm]
    · simp only [Int.mul_assoc, Int.mul_comm, Int.mul_left_comm]
theorem sc_pos {t b n e : Int} (h : -3000 ≤ e) : 0 < t * (sc n e).2 - (sc n e).1 * b ↔ n * (G e * b) < t * G 0 := by
  obtain ⟨F, hF, q⟩ := sc_cmp t b n e h
  generalize t * (sc n e).2 - (sc n e).1 * b = x at *
  constructor
  · intro hx
    have := Int.mul_pos hx hF
    omega
  · intro hx
    have : 0 < x * F := by omega
    rcases Int.lt_trichotomy x 0 with c | c | c
    · have := Int.mul_neg_of_neg_of_pos c hF
      omega
    · rw [c, Int.zero_mul] at this
      omega
    · exact c
theorem sc_zero {t b n e : Int} (h : -3000 ≤ e) : t * (sc n e).2 - (sc n e).1 * b = 0 ↔ t * G 0 = n * (G e * b) := by
  obtain ⟨F, hF, q⟩ := sc_cmp t b n e h
  generalize t * (sc n e).2 - (sc n e).1 * b = x at *
  constructor
  · intro hx
    rw [hx, Int.zero_mul] at q
    omega
  · intro hx
    have : x * F = 0 := by omega
    rcases Int.mul_eq_zero.mp this with c | c
    · exact c
    · omega
theorem and_one {n : Int} (h : 0 ≤ n) : Builtin.bitAnd n 1 = n % 2 := by
  obtain ⟨k, rfl⟩ := Int.eq_ofNat_of_zero_le h
  have a : decide (0 ≤ (k : Int)) = true := decide_eq_true (Int.natCast_nonneg _)
  have b : decide (0 ≤ (1 : Int)) = true := rfl
  unfold Builtin.bitAnd
  rw [a, b]
  show (((k : Int).toNat &&& (1 : Int).toNat : Nat) : Int) = _
  rw [Int.toNat_natCast, show (1 : Int).toNat = 1 from rfl, Nat.and_one_is_mod]
  omega
section
variable {t b : Int}
theorem scale1 (h : pw t b ≤ 2900) : t1 t b * (G (pw t b) * b) = t * G 0 * b1 t b := by
  have g := pw_ge (t := t) (b := b)
  unfold t1 b1
  split
  · rename_i c
    have e1 : G 0 = 2 ^ (0 - pw t b).toNat * G (pw t b) := by
      have := G_add (e := pw t b) (0 - pw t b).toNat (by omega)
      rwa [show pw t b + ((0 - pw t b).toNat : Int) = 0 by omega] at this
    rw [e1]
    simp only [Int.mul_assoc, Int.mul_comm, Int.mul_left_comm]
  · rename_i c
    have e1 : G (pw t b) = 2 ^ (pw t b).toNat * G 0 := by
      have := G_add (e := 0) (pw t b).toNat (by decide)
      rwa [show (0 : Int) + ((pw t b).toNat : Int) = pw t b by omega] at this
    rw [e1]
    simp only [Int.mul_assoc, Int.mul_comm, Int.mul_left_comm]
theorem scale2 (h : pw t b ≤ 2900) : t1 t b * (G (p2 t b) * b) = t * G 0 * b2 t b := by
  have g := pw_ge (t := t) (b := b)
  have s := scale1 h
  unfold p2 b2
  split
  · rw [G_succ (by omega), show b1 t b * 2 ^ (1 : Int).toNat = 2 * b1 t b by show b1 t b * 2 = _; omega]
    rw [show t1 t b * (2 * G (pw t b) * b) = 2 * (t1 t b * (G (pw t b) * b)) by simp only [Int.mul_assoc, Int.mul_comm, Int.mul_left_comm], s]
    simp only [Int.mul_assoc, Int.mul_comm, Int.mul_left_comm]
  · exact s
theorem wq_eq (hb : 0 < b) : t1 t b = wq t b * b2 t b + wr t b := by
  have := Int.ediv_mul_add_emod (t1 t b) (b2 t b)
  unfold wq wr
  omega
theorem wq_big (ht : 0 < t) (hb : 0 < b) (h : -1074 < p2 t b) : 4503599627370496 * b2 t b ≤ t1 t b := by
  have hb1 := b1_pos (t := t) hb
  unfold p2 at h
  unfold b2
  split at h
  · rename_i c
    rw [if_pos c, show b1 t b * 2 ^ (1 : Int).toNat = 2 * b1 t b by show b1 t b * 2 = _; omega]
    have := Int.mul_le_of_le_ediv hb1 c
    omega
  · rename_i c
    rw [if_neg c]
    have h1 := pow_bits_le ht
    have h2 := lt_pow_bits (n := b) (by omega)
    have hn := bits_pos ht
    have e52 : (4503599627370496 : Int) = 2 ^ 52 := by decide
    have ep : pw t b = bits t - bits b - 53 := by
      unfold pw at h ⊢
      split
      · rename_i c2; rw [if_pos c2] at h; omega
      · rfl
    rw [e52]
    unfold bits at ep
    generalize hk : Builtin.Int.intBits t = n at *
    generalize hm : Builtin.Int.intBits b = m at *
    unfold t1 b1
    split
    · rename_i c2
      have a1 : (2 : Int) ^ (n - 1) * 2 ^ (0 - pw t b).toNat ≤ t * 2 ^ (0 - pw t b).toNat := Int.mul_le_mul_of_nonneg_right h1 (Int.le_of_lt (pow_pos2 _))
      rw [← Int.pow_add] at a1
      have a2 : (2 : Int) ^ 52 * b ≤ 2 ^ 52 * 2 ^ m := Int.mul_le_mul_of_nonneg_left (Int.le_of_lt h2) (by decide)
      rw [← Int.pow_add] at a2
      have a3 : (2 : Int) ^ (52 + m) ≤ 2 ^ (n - 1 + (0 - pw t b).toNat) := pow_mono (by omega)
      omega
    · rename_i c2
      have a1 : b * 2 ^ (pw t b).toNat ≤ 2 ^ m * 2 ^ (pw t b).toNat := Int.mul_le_mul_of_nonneg_right (Int.le_of_lt h2) (Int.le_of_lt (pow_pos2 _))
      rw [← Int.pow_add] at a1
      have a2 : (2 : Int) ^ 52 * (b * 2 ^ (pw t b).toNat) ≤ 2 ^ 52 * 2 ^ (m + (pw t b).toNat) := Int.mul_le_mul_of_nonneg_left a1 (by decide)
      rw [← Int.pow_add] at a2
      have a3 : (2 : Int) ^ (52 + (m + (pw t b).toNat)) ≤ 2 ^ (n - 1) := pow_mono (by omega)
      omega
end
/-- W * 2 ^ p is the nearest one to t / b -/
structure Near (t b W p : Int) : Prop where
  a : t * G 0 ≤ (2 * W + 1) * (G (p - 1) * b)
  ae : t * G 0 = (2 * W + 1) * (G (p - 1) * b) → W % 2 = 0
  l : (2 * W - 1) * (G (p - 1) * b) ≤ t * G 0
  le : t * G 0 = (2 * W - 1) * (G (p - 1) * b) → W % 2 = 0
  c : -1074 < p → 4503599627370496 * (G p * b) ≤ t * G 0
  w0 : 0 ≤ W
  w1 : W ≤ 9007199254740992
  p0 : -1074 ≤ p
theorem dbl {x y z w : Int} (h : y = 2 * z) : x * y = 2 * (x * z) := by rw [h, Int.mul_left_comm]
theorem near_whP {t b : Int} (ht : 0 < t) (hb : 0 < b) (hpw : pw t b ≤ 2800) : Near t b (wh t b) (p2 t b) := by
  have s2 := scale2 (t := t) (b := b) (by omega)
  have B0 := b2_pos (t := t) hb
  have g := p2_ge (t := t) (b := b)
  have qe := wq_eq (t := t) hb
  have r0 := wr_nn (t := t) hb
  have r1 := wr_lt (t := t) hb
  have q0 := wq_nn (t := t) (b := b) (by omega) hb
  have D0 : 0 < G (p2 t b) * b := Int.mul_pos (G_pos _) hb
  have gp : G (p2 t b) * b = 2 * (G (p2 t b - 1) * b) := by rw [G_pred (by omega), Int.mul_assoc]
  have mx : ∀ x : Int, 2 * (x * (G (p2 t b - 1) * b)) = x * (G (p2 t b) * b) := fun x => by rw [gp, Int.mul_left_comm]
  -- from T1, B to t, b
  have up : ∀ x : Int, 2 * t1 t b ≤ x * b2 t b → t * G 0 ≤ x * (G (p2 t b - 1) * b) := fun x h => by
    have h1 := Int.mul_le_mul_of_nonneg_right h (Int.le_of_lt D0)
    rw [Int.mul_assoc, s2, show x * b2 t b * (G (p2 t b) * b) = x * (G (p2 t b) * b) * b2 t b by simp only [Int.mul_assoc, Int.mul_comm, Int.mul_left_comm], ← mx, ← Int.mul_assoc] at h1
    have := Int.le_of_mul_le_mul_right h1 B0
    omega
  have dn : ∀ x : Int, x * b2 t b ≤ 2 * t1 t b → x * (G (p2 t b - 1) * b) ≤ t * G 0 := fun x h => by
    have h1 := Int.mul_le_mul_of_nonneg_right h (Int.le_of_lt D0)
    rw [Int.mul_assoc 2, s2, show x * b2 t b * (G (p2 t b) * b) = x * (G (p2 t b) * b) * b2 t b by simp only [Int.mul_assoc, Int.mul_comm, Int.mul_left_comm], ← mx, ← Int.mul_assoc 2 (t * G 0)] at h1
    have := Int.le_of_mul_le_mul_right h1 B0
    omega
  have ee : ∀ x : Int, t * G 0 = x * (G (p2 t b - 1) * b) → 2 * t1 t b = x * b2 t b := fun x h => by
    have h1 : 2 * t1 t b * (G (p2 t b) * b) = x * b2 t b * (G (p2 t b) * b) := by
      rw [Int.mul_assoc, s2, h, show x * b2 t b * (G (p2 t b) * b) = x * (G (p2 t b) * b) * b2 t b by simp only [Int.mul_assoc, Int.mul_comm, Int.mul_left_comm], ← mx, ← Int.mul_assoc 2]
    exact Int.eq_of_mul_eq_mul_right (by omega) h1
  have an := and_one q0
  have m1 : ∀ x y : Int, (x * wq t b + y) * b2 t b = x * (wq t b * b2 t b) + y * b2 t b := fun x y => by rw [Int.add_mul, Int.mul_assoc]
  have m1' : ∀ x y : Int, (x * wq t b - y) * b2 t b = x * (wq t b * b2 t b) - y * b2 t b := fun x y => by rw [Int.sub_mul, Int.mul_assoc]
  have hw : ((b2 t b < 2 * wr t b ∨ (2 * wr t b = b2 t b ∧ wq t b % 2 = 1)) ∧ wh t b = wq t b + 1) ∨ (2 * wr t b ≤ b2 t b ∧ (2 * wr t b = b2 t b → wq t b % 2 = 0) ∧ wh t b = wq t b) := by
    have hg : goesUp t b ↔ (b2 t b < 2 * wr t b ∨ (2 * wr t b = b2 t b ∧ wq t b % 2 = 1)) := by
      unfold goesUp
      rw [an]
    by_cases c : goesUp t b
    · exact .inl ⟨hg.1 c, if_pos c⟩
    · have c' : ¬ (b2 t b < 2 * wr t b ∨ (2 * wr t b = b2 t b ∧ wq t b % 2 = 1)) := fun z => c (hg.2 z)
      refine .inr ⟨by omega, fun e => ?_, if_neg c⟩
      have := Int.emod_two_eq (wq t b)
      omega
  refine ⟨?_, ?_, ?_, ?_, ?_, wh_nn (by omega) hb, wh_le (by omega) hb, g⟩
  · refine up _ ?_
    rcases hw with ⟨c, e⟩ | ⟨c, c2, e⟩
    · rw [e, show 2 * (wq t b + 1) + 1 = 2 * wq t b + 3 by omega, m1]
      omega
    · rw [e, m1]
      omega
  · intro h
    have := ee _ h
    rcases hw with ⟨c, e⟩ | ⟨c, c2, e⟩
    · rw [e, show 2 * (wq t b + 1) + 1 = 2 * wq t b + 3 by omega, m1] at this
      omega
    · rw [e, m1] at this
      rw [e]
      exact c2 (by omega)
  · refine dn _ ?_
    rcases hw with ⟨c, e⟩ | ⟨c, c2, e⟩
    · rw [e, show 2 * (wq t b + 1) - 1 = 2 * wq t b + 1 by omega, m1]
      omega
    · rw [e, m1']
      omega
  · intro h
    have := ee _ h
    rcases hw with ⟨c, e⟩ | ⟨c, c2, e⟩
    · rw [e, show 2 * (wq t b + 1) - 1 = 2 * wq t b + 1 by omega, m1] at this
      rw [e]
      omega
    · rw [e, m1'] at this
      omega
  · intro h
    have := wq_big ht hb h
    have h2 := dn (2 * 4503599627370496) (by rw [Int.mul_assoc]; omega)
    rw [gp, Int.mul_left_comm, ← Int.mul_assoc]
    exact h2
theorem near_wh {t b : Int} (ht : 0 < t) (hb : 0 < b) (hh : bits t ≤ 2800) : Near t b (wh t b) (p2 t b) := by
  refine near_whP ht hb ?_
  have := bits_nn b
  unfold pw; split <;> omega
/-- what is told by doubling an odd number -/
theorem back {W p M Q : Int} {k : Nat} (hW : 0 < W) (w1 : W ≤ 9007199254740992) (p0 : -1074 ≤ p) (c : -1074 < p → 4503599627370496 ≤ W) (hM : M = (red W p).1 * 2 ^ k) (hQ : Q = (red W p).2 - k)
    (hk : k = 0 ∨ (M < 9007199254740992 ∧ -1074 ≤ Q)) (hs : ¬ (0 < M ∧ M < 4503599627370496 ∧ -1074 < Q)) : (M = W ∧ Q = p) ∨ (W = 9007199254740992 ∧ M = 4503599627370496 ∧ Q = p + 1) := by
  obtain ⟨j, m, hm, e, r⟩ := red_spec hW p
  rw [r] at hM hQ
  simp only at hM hQ
  rcases Nat.lt_trichotomy k j with c1 | c1 | c1
  · obtain ⟨i, rfl⟩ : ∃ i, j = k + (i + 1) := ⟨j - k - 1, by omega⟩
    have e2 : W = 2 ^ i * (2 * M) := by
      rw [e, hM, Int.pow_add, Int.pow_succ]
      simp only [Int.mul_assoc, Int.mul_comm, Int.mul_left_comm]
    have M0 : 0 < M := by
      rw [hM]
      exact Int.mul_pos (by omega) (pow_pos2 _)
    have M1 : 4503599627370496 ≤ M := by omega
    rcases Nat.eq_zero_or_pos i with z | z
    · subst z
      rw [Int.pow_zero, Int.one_mul] at e2
      exact .inr ⟨by omega, by omega, by omega⟩
    · obtain ⟨i', rfl⟩ : ∃ i', i = i' + 1 := ⟨i - 1, by omega⟩
      have p2 : (2 : Int) ≤ 2 ^ (i' + 1) := by
        rw [Int.pow_succ]
        have := pow_pos2 i'
        omega
      have := Int.mul_le_mul_of_nonneg_right p2 (show 0 ≤ 2 * M by omega)
      omega
  · subst c1
    refine .inl ⟨?_, by omega⟩
    rw [hM, e, Int.mul_comm]
  · obtain ⟨i, rfl⟩ : ∃ i, k = j + (i + 1) := ⟨k - j - 1, by omega⟩
    have e2 : M = 2 ^ i * (2 * W) := by
      rw [e, hM, Int.pow_add, Int.pow_succ]
      simp only [Int.mul_assoc, Int.mul_comm, Int.mul_left_comm]
    have h3 := pow_pos2 i
    have : 1 * (2 * W) ≤ 2 ^ i * (2 * W) := Int.mul_le_mul_of_nonneg_right (by omega) (by omega)
    have := c (by omega)
    omega
/-- the law's look at it -/
structure NearL (t b M Q : Int) : Prop where
  a : ¬ 0 < t * (sc (2 * M + 1) (Q - 1)).2 - (sc (2 * M + 1) (Q - 1)).1 * b
  ae : t * (sc (2 * M + 1) (Q - 1)).2 - (sc (2 * M + 1) (Q - 1)).1 * b = 0 → M % 2 = 0
  l : (M = 4503599627370496 ∧ -1074 < Q) → 0 < t * (sc (4 * M - 1) (Q - 2)).2 - (sc (4 * M - 1) (Q - 2)).1 * b ∨ (t * (sc (4 * M - 1) (Q - 2)).2 - (sc (4 * M - 1) (Q - 2)).1 * b = 0 ∧ M % 2 = 0) ∨ M = 0
  l' : ¬ (M = 4503599627370496 ∧ -1074 < Q) → 0 < t * (sc (2 * M - 1) (Q - 1)).2 - (sc (2 * M - 1) (Q - 1)).1 * b ∨ (t * (sc (2 * M - 1) (Q - 1)).2 - (sc (2 * M - 1) (Q - 1)).1 * b = 0 ∧ M % 2 = 0) ∨ M = 0
theorem near_w {t b W p : Int} (n : Near t b W p) (hb : 0 < b) : -1074 < p → 4503599627370496 ≤ W := fun h => by
  have h1 := n.c h
  have h2 := n.a
  have D0 : 0 < G (p - 1) * b := Int.mul_pos (G_pos _) hb
  have gp : G p * b = 2 * (G (p - 1) * b) := by rw [G_pred (by omega), Int.mul_assoc]
  rw [gp] at h1
  rcases Int.lt_or_le W 4503599627370496 with c | c
  · have : (2 * W + 1) * (G (p - 1) * b) ≤ 9007199254740991 * (G (p - 1) * b) := Int.mul_le_mul_of_nonneg_right (by omega) (by omega)
    omega
  · exact c
theorem near_law {t b W p M Q : Int} {k : Nat} (n : Near t b W p) (hb : 0 < b) (hW : 0 < W) (hM : M = (red W p).1 * 2 ^ k) (hQ : Q = (red W p).2 - k)
    (hk : k = 0 ∨ (M < 9007199254740992 ∧ -1074 ≤ Q)) (hs : ¬ (0 < M ∧ M < 4503599627370496 ∧ -1074 < Q)) : NearL t b M Q := by
  have D0 : 0 < G (p - 1) * b := Int.mul_pos (G_pos _) hb
  have p0 := n.p0
  have gp : G p * b = 2 * (G (p - 1) * b) := by rw [G_pred (by omega), Int.mul_assoc]
  have gq : G (p - 1) * b = 2 * (G (p - 2) * b) := by rw [G_pred (by omega), Int.mul_assoc, show p - 1 - 1 = p - 2 by omega]
  have a := n.a
  have ae := n.ae
  have l := n.l
  have le := n.le
  have c := n.c
  have or3 : ∀ {x y : Int} {A : Prop}, x ≤ y → (y = x → A) → x < y ∨ y = x ∧ A := fun {x y A} h f => by
    rcases Int.lt_or_eq_of_le h with h | h
    · exact .inl h
    · exact .inr ⟨h.symm, f h.symm⟩
  rcases back hW n.w1 n.p0 (near_w n hb) hM hQ hk hs with ⟨rfl, rfl⟩ | ⟨hW2, rfl, rfl⟩
  · refine ⟨?_, ?_, ?_, ?_⟩
    · rw [sc_pos (by omega)]
      omega
    · rw [sc_zero (by omega)]
      exact ae
    · rintro ⟨h1, h2⟩
      have := c h2
      left
      rw [sc_pos (by omega)]
      have : (4 * M - 1) * (G (Q - 2) * b) = 4 * 4503599627370496 * (G (Q - 2) * b) - G (Q - 2) * b := by
        rw [Int.sub_mul, Int.one_mul, h1]
      have := Int.mul_pos (G_pos (Q - 2)) hb
      omega
    · intro _
      rcases or3 l le with h | ⟨h1, h2⟩
      · left
        rw [sc_pos (by omega)]
        exact h
      · right; left
        rw [sc_zero (by omega)]
        exact ⟨h1, h2⟩
  · subst hW2
    refine ⟨?_, fun _ => rfl, ?_, ?_⟩
    · rw [sc_pos (by omega), show p + 1 - 1 = p by omega, gp]
      omega
    · intro _
      rcases or3 l (fun _ => (rfl : (4503599627370496 : Int) % 2 = 0)) with h | ⟨h1, h2⟩
      · left
        rw [sc_pos (by omega), show p + 1 - 2 = p - 1 by omega]
        exact h
      · right; left
        rw [sc_zero (by omega), show p + 1 - 2 = p - 1 by omega]
        exact ⟨h1, h2⟩
    · intro h
      exact absurd ⟨rfl, by omega⟩ h
theorem near_zero {t b p : Int} (n : Near t b 0 p) (hb : 0 < b) : NearL t b 0 (-1074) := by
  have hp : p = -1074 := by
    have h0 := n.p0
    rcases Int.lt_or_le (-1074) p with c | c
    · have := near_w n hb c
      omega
    · omega
  subst hp
  refine ⟨?_, fun _ => rfl, fun _ => .inr (.inr rfl), fun _ => .inr (.inr rfl)⟩
  rw [sc_pos (by decide)]
  have := n.a
  simp only [Int.mul_zero, Int.zero_add] at this ⊢
  omega
theorem edge {t b W p : Int} (n : Near t b W p) (hb : 0 < b) : 1024 < bits W + p ↔ ((2 : Int) ^ 1024 - 2 ^ 970) * b ≤ t := by
  have e1 : ((2 : Int) ^ 1024 - 2 ^ 970) * G 0 = 18014398509481983 * G 970 := by decide +kernel
  have e2 : ((2 : Int) ^ 1024 - 2 ^ 970) * b ≤ t ↔ 18014398509481983 * (G 970 * b) ≤ t * G 0 := by
    have e3 : ((2 : Int) ^ 1024 - 2 ^ 970) * b * G 0 = 18014398509481983 * (G 970 * b) := by
      rw [Int.mul_right_comm, e1, Int.mul_assoc]
    rw [← e3]
    exact ⟨fun h => Int.mul_le_mul_of_nonneg_right h (Int.le_of_lt (G_pos 0)), fun h => Int.le_of_mul_le_mul_right h (G_pos 0)⟩
  rw [e2]
  have W0 := n.w0
  have W1 := n.w1
  have a := n.a
  have ae := n.ae
  have l := n.l
  have c := n.c
  have p0 := n.p0
  have D0 : ∀ e, 0 < G e * b := fun e => Int.mul_pos (G_pos _) hb
  have gd : ∀ {e : Int}, -2999 ≤ e → G e * b = 2 * (G (e - 1) * b) := fun {e} h => by rw [G_pred h, Int.mul_assoc]
  have gl : ∀ {e f : Int}, e ≤ f → G e * b ≤ G f * b := fun h => Int.mul_le_mul_of_nonneg_right (G_le h) (by omega)
  have b53 : bits W ≤ ((53 : Nat) : Int) ↔ W < 9007199254740992 := by
    rw [bits_lt_pow W0]
    rfl
  have b52 : bits W ≤ ((52 : Nat) : Int) ↔ W < 4503599627370496 := by
    rw [bits_lt_pow W0]
    rfl
  have b54 : bits W ≤ ((54 : Nat) : Int) := (bits_lt_pow W0).2 (by omega)
  constructor
  · intro h
    have hp : 971 ≤ p := by omega
    have := c (by omega)
    rcases Int.lt_or_le 971 p with h2 | h2
    · have g1 := gl (show (972 : Int) ≤ p by omega)
      have g2 := gd (e := 972) (by decide)
      have g3 := gd (e := 971) (by decide)
      have := D0 970
      have := Int.mul_le_mul_of_nonneg_left g1 (show (0 : Int) ≤ 4503599627370496 by decide)
      simp only [show (972 : Int) - 1 = 971 from rfl, show (971 : Int) - 1 = 970 from rfl] at g2 g3
      omega
    · have hp : p = 971 := by omega
      subst hp
      have hw : W = 9007199254740992 := by omega
      subst hw
      exact l
  · intro h
    rcases Int.lt_or_le 1024 (bits W + p) with h2 | h2
    · exact h2
    · exfalso
      have hp : p ≤ 971 := by
        rcases Int.lt_or_le 971 p with h3 | h3
        · have := near_w n hb (by omega)
          omega
        · exact h3
      rcases Int.lt_or_le p 971 with h3 | h3
      · have g1 := gl (show p - 1 ≤ 969 by omega)
        have g2 := gd (e := 970) (by decide)
        simp only [show (970 : Int) - 1 = 969 from rfl] at g2
        have h4 := Int.mul_le_mul_of_nonneg_left g1 (show (0 : Int) ≤ 2 * W + 1 by omega)
        have h5 : (2 * W + 1) * (G 969 * b) ≤ 18014398509481985 * (G 969 * b) := Int.mul_le_mul_of_nonneg_right (by omega) (Int.le_of_lt (D0 969))
        have := D0 969
        omega
      · have hp : p = 971 := by omega
        subst hp
        have hw : W < 9007199254740992 := by omega
        simp only [show (971 : Int) - 1 = 970 from rfl] at a ae l
        rcases Int.lt_or_le W 9007199254740991 with h4 | h4
        · have h5 : (2 * W + 1) * (G 970 * b) ≤ 18014398509481981 * (G 970 * b) := Int.mul_le_mul_of_nonneg_right (by omega) (Int.le_of_lt (D0 970))
          have := D0 970
          omega
        · have hw2 : W = 9007199254740991 := by omega
          subst hw2
          have := ae (by omega)
          omega
end Nu

set_option Elab.async false
set_option linter.all false
set_option maxRecDepth 100000
set_option maxHeartbeats 4000000
set_option autoImplicit false
/-! Exact quotients; equal fractions. -/
namespace Nu
open PySem L2
theorem Near.cross {t b t' b' W p : Int} (n : Near t' b' W p) (hb : 0 < b) (hb' : 0 < b') (e : t * b' = t' * b) : Near t b W p := by
  have k1 : ∀ x y : Int, t' * G 0 ≤ x * (G y * b') ↔ t * G 0 ≤ x * (G y * b) := fun x y => by
    have e1 : t' * G 0 * b = t * G 0 * b' := by rw [Int.mul_right_comm, ← e, Int.mul_right_comm]
    have e2 : x * (G y * b') * b = x * (G y * b) * b' := by simp only [Int.mul_assoc, Int.mul_comm, Int.mul_left_comm]
    constructor
    · intro h
      have := Int.mul_le_mul_of_nonneg_right h (Int.le_of_lt hb)
      rw [e1, e2] at this
      exact Int.le_of_mul_le_mul_right this hb'
    · intro h
      have := Int.mul_le_mul_of_nonneg_right h (Int.le_of_lt hb')
      rw [← e1, ← e2] at this
      exact Int.le_of_mul_le_mul_right this hb
  have k2 : ∀ x y : Int, x * (G y * b') ≤ t' * G 0 ↔ x * (G y * b) ≤ t * G 0 := fun x y => by
    have e1 : t' * G 0 * b = t * G 0 * b' := by rw [Int.mul_right_comm, ← e, Int.mul_right_comm]
    have e2 : x * (G y * b') * b = x * (G y * b) * b' := by simp only [Int.mul_assoc, Int.mul_comm, Int.mul_left_comm]
    constructor
    · intro h
      have := Int.mul_le_mul_of_nonneg_right h (Int.le_of_lt hb)
      rw [e1, e2] at this
      exact Int.le_of_mul_le_mul_right this hb'
    · intro h
      have := Int.mul_le_mul_of_nonneg_right h (Int.le_of_lt hb')
      rw [← e1, ← e2] at this
      exact Int.le_of_mul_le_mul_right this hb
  have k3 : ∀ x y : Int, t' * G 0 = x * (G y * b') ↔ t * G 0 = x * (G y * b) := fun x y => by
    have h1 := k1 x y
    have h2 := k2 x y
    omega
  exact ⟨(k1 _ _).1 n.a, fun h => n.ae ((k3 _ _).2 h), (k2 _ _).1 n.l, fun h => n.le ((k3 _ _).2 h), fun h => (k2 _ _).1 (n.c h), n.w0, n.w1, n.p0⟩
/-- what is a float is told exactly -/
theorem near_exact {t b W p m e : Int} (n : Near t b W p) (hb : 0 < b) (hm : 0 < m) (hm2 : m < 9007199254740992) (he : -1074 ≤ e) (he2 : e ≤ 2900) (h : t * G 0 = m * (G e * b)) : W * G p = m * G e := by
  have p0 := n.p0
  have D0 : 0 < G (p - 1) * b := Int.mul_pos (G_pos _) hb
  rcases Int.lt_or_le e p with c | c
  · exfalso
    have h1 := n.c (by omega)
    rw [h] at h1
    have g1 : G (e + 1) * b ≤ G p * b := Int.mul_le_mul_of_nonneg_right (G_le (by omega)) (by omega)
    rw [G_succ (by omega), Int.mul_assoc] at g1
    have D1 : 0 < G e * b := Int.mul_pos (G_pos _) hb
    have : m * (G e * b) ≤ 9007199254740991 * (G e * b) := Int.mul_le_mul_of_nonneg_right (by omega) (by omega)
    omega
  · obtain ⟨k, hk⟩ : ∃ k : Nat, e = p + k := ⟨(e - p).toNat, by omega⟩
    have ge : G e = 2 ^ k * G p := by rw [hk, G_add k (by omega)]
    have gp : G p * b = 2 * (G (p - 1) * b) := by rw [G_pred (by omega), Int.mul_assoc]
    have h2 : t * G 0 = 2 * (m * 2 ^ k) * (G (p - 1) * b) := by
      rw [h, ge, Int.mul_assoc (2 ^ k), gp]
      simp only [Int.mul_assoc, Int.mul_comm, Int.mul_left_comm]
    have a := n.a
    have l := n.l
    rw [h2] at a l
    have a' := Int.le_of_mul_le_mul_right a D0
    have l' := Int.le_of_mul_le_mul_right l D0
    have : W = m * 2 ^ k := by omega
    rw [this, ge, Int.mul_assoc]
theorem red_G {W p : Int} (hW : 0 < W) (hp : -3000 ≤ p) : (red W p).1 * G (red W p).2 = W * G p := by
  obtain ⟨k, m, hm, e, r⟩ := red_spec hW p
  rw [r]
  show (2 * m + 1) * G (p + k) = W * G p
  rw [G_add k hp, e]
  simp only [Int.mul_assoc, Int.mul_comm, Int.mul_left_comm]
/-- a remainder of two floats is a float -/
theorem mod_exact {A C K a c : Int} (hK : 0 < K) (hc : 0 < c) (hA : A * G 0 = a * K) (hC : C * G 0 = c * K) : (A % C) * G 0 = (a % c) * K := by
  have g := G_pos 0
  have h1 : (A * G 0) % (C * G 0) = (A % C) * G 0 := by rw [Int.mul_comm A, Int.mul_comm C, Int.mul_emod_mul_of_pos A C g, Int.mul_comm]
  have h2 : (a * K) % (c * K) = (a % c) * K := by rw [Int.mul_comm a, Int.mul_comm c, Int.mul_emod_mul_of_pos a c hK, Int.mul_comm]
  rw [← h1, hA, hC, h2]
end Nu

set_option Elab.async false
set_option linter.all false
set_option maxRecDepth 100000
set_option maxHeartbeats 4000000
set_option autoImplicit false
/-! The ranks of floats. -/
namespace Nu
open PySem L2
/-- a float spread out: 53 bits, or the lowest power -/
structure Can (T P : Int) : Prop where
  t0 : 0 < T
  t1 : T < 9007199254740992
  p0 : -1074 ≤ P
  p1 : P ≤ 971
  c : -1074 < P → 4503599627370496 ≤ T
def rkA (T P : Int) : Int := T + (P + 1074) * 4503599627370496
theorem Can.pos {T P : Int} (h : Can T P) : 0 < rkA T P := by
  have := h.t0
  have := h.p0
  unfold rkA
  omega
theorem Can.lt {T P : Int} (h : Can T P) : rkA T P < 9218868437227405312 := by
  have := h.t1
  have := h.p1
  unfold rkA
  omega
/-- more power is more -/
theorem can_step {T P T' P' : Int} (h : Can T P) (h' : Can T' P') (hp : P < P') : T * G P < T' * G P' := by
  have c := h'.c (by have := h.p0; omega)
  have p0 := h.p0
  have g1 : 2 * G P ≤ G P' := by
    rw [← G_succ (by omega)]
    exact G_le (by omega)
  have gp := G_pos P
  have a1 : T * G P ≤ 9007199254740991 * G P := Int.mul_le_mul_of_nonneg_right (by have := h.t1; omega) (Int.le_of_lt gp)
  have a2 : 4503599627370496 * G P' ≤ T' * G P' := Int.mul_le_mul_of_nonneg_right c (Int.le_of_lt (G_pos _))
  omega
theorem can_lt {T P T' P' : Int} (h : Can T P) (h' : Can T' P') : T * G P < T' * G P' ↔ rkA T P < rkA T' P' := by
  have e1 := h.t0
  have e2 := h.t1
  have e3 := h'.t0
  have e4 := h'.t1
  rcases Int.lt_trichotomy P P' with c | c | c
  · have := can_step h h' c
    have c2 := h'.c (by have := h.p0; omega)
    unfold rkA
    omega
  · subst c
    have gp := G_pos P
    constructor
    · intro k
      have := Int.lt_of_mul_lt_mul_right k (Int.le_of_lt gp)
      unfold rkA
      omega
    · intro k
      refine Int.mul_lt_mul_of_pos_right ?_ gp
      unfold rkA at k
      omega
  · have := can_step h' h c
    have c2 := h.c (by have := h'.p0; omega)
    unfold rkA
    omega
theorem can_eq {T P T' P' : Int} (h : Can T P) (h' : Can T' P') : T * G P = T' * G P' ↔ rkA T P = rkA T' P' := by
  have a := can_lt h h'
  have b := can_lt h' h
  omega
/-- how far a float is spread -/
def mr (t p : Int) : Int := if p - -1074 < 53 - bits t then p - -1074 else 53 - bits t
theorem spread_can {t p : Int} (t0 : 0 < t) (t1 : t < 9007199254740992) (p0 : -1074 ≤ p) (hb : bits t + p ≤ 1024) : 0 ≤ mr t p ∧ mr t p ≤ 53 ∧ Can (t * 2 ^ (mr t p).toNat) (p - mr t p) ∧ t * 2 ^ (mr t p).toNat * G (p - mr t p) = t * G p := by
  have b53 : bits t ≤ ((53 : Nat) : Int) := (bits_lt_pow (by omega)).2 t1
  have b1 : 1 ≤ bits t := by
    have := bits_pos t0
    unfold bits
    omega
  have m0 : 0 ≤ mr t p := by unfold mr; split <;> omega
  have m1 : mr t p ≤ 53 - bits t ∧ mr t p ≤ p + 1074 := by unfold mr; split <;> omega
  obtain ⟨k, hk⟩ : ∃ k : Nat, mr t p = k := ⟨(mr t p).toNat, by omega⟩
  have hkk : (mr t p).toNat = k := by omega
  have bs := bits_shift t0 k
  have T0 : 0 < t * 2 ^ k := Int.mul_pos t0 (pow_pos2 k)
  refine ⟨m0, by omega, ⟨?_, ?_, ?_, ?_, ?_⟩, ?_⟩
  · rw [hkk]; exact T0
  · rw [hkk]
    exact (bits_lt_pow (n := t * 2 ^ k) (k := 53) (by omega)).1 (by omega)
  · omega
  · by_cases c : -1074 < p - mr t p
    · have : mr t p = 53 - bits t := by
        unfold mr at c ⊢
        split at c <;> rename_i h
        · omega
        · rw [if_neg h]
      omega
    · omega
  · intro c
    have : mr t p = 53 - bits t := by
      unfold mr at c ⊢
      split at c <;> rename_i h
      · omega
      · rw [if_neg h]
    rw [hkk]
    have h2 : ¬ bits (t * 2 ^ k) ≤ ((52 : Nat) : Int) := by omega
    rw [bits_lt_pow (by omega)] at h2
    rw [show (2 : Int) ^ 52 = 4503599627370496 by decide] at h2
    omega
  · rw [hkk, hk, Int.mul_assoc, ← G_add k (by omega), show p - (k : Int) + k = p by omega]
/-- a rank's place -/
def kOf (n : Int) : Int := if 0 > n / 4503599627370496 - 1 then 0 else n / 4503599627370496 - 1
theorem rank_can {n : Int} (h0 : 0 < n) (h1 : n < 9218868437227405312) : Can (n - kOf n * 4503599627370496) (kOf n + -1074) ∧ rkA (n - kOf n * 4503599627370496) (kOf n + -1074) = n := by
  have h : (n / 4503599627370496 ≤ 1 ∧ kOf n = 0) ∨ (1 < n / 4503599627370496 ∧ kOf n = n / 4503599627370496 - 1) := by
    unfold kOf
    split
    · exact .inl ⟨by omega, rfl⟩
    · by_cases c : n / 4503599627370496 = 1
      · exact .inl ⟨by omega, by omega⟩
      · exact .inr ⟨by omega, rfl⟩
  rcases h with ⟨h, e⟩ | ⟨h, e⟩
  · rw [e]
    refine ⟨⟨by omega, by omega, by omega, by omega, by omega⟩, ?_⟩
    unfold rkA
    omega
  · rw [e]
    refine ⟨⟨by omega, by omega, by omega, by omega, by omega⟩, ?_⟩
    unfold rkA
    omega
theorem odd_unique {t p t' p' : Int} (h1 : t % 2 = 1) (h2 : t' % 2 = 1) (p0 : -3000 ≤ p) (p0' : -3000 ≤ p') (e : t * G p = t' * G p') : t = t' ∧ p = p' := by
  have go : ∀ {t p t' p' : Int}, t % 2 = 1 → -3000 ≤ p → p ≤ p' → t * G p = t' * G p' → t = t' ∧ p = p' := by
    intro t p t' p' ho hp c e
    obtain ⟨k, hk⟩ : ∃ k : Nat, p' = p + k := ⟨(p' - p).toNat, by omega⟩
    rw [hk, G_add k hp, ← Int.mul_assoc] at e
    have e2 := Int.eq_of_mul_eq_mul_right (by have := G_pos p; omega) e
    rcases Nat.eq_zero_or_pos k with z | z
    · subst z
      rw [Int.pow_zero, Int.mul_one] at e2
      exact ⟨e2, by omega⟩
    · obtain ⟨j, rfl⟩ : ∃ j, k = j + 1 := ⟨k - 1, by omega⟩
      rw [Int.pow_succ, ← Int.mul_assoc] at e2
      omega
  rcases Int.le_total p p' with c | c
  · exact go h1 p0 c e
  · have := go h2 p0' c e.symm
    exact ⟨this.1.symm, this.2.symm⟩
/-- the order of numbers with signs -/
theorem sgn_lt {s r X Y A B : Int} (hs : s = 1 ∨ s = -1) (hr : r = 1 ∨ r = -1) (x0 : 0 ≤ X) (y0 : 0 ≤ Y) (a0 : 0 ≤ A) (b0 : 0 ≤ B) (xa : X = 0 ↔ A = 0) (yb : Y = 0 ↔ B = 0) (l : X < Y ↔ A < B) (l' : Y < X ↔ B < A) :
    s * X < r * Y ↔ s * A < r * B := by
  rcases hs with rfl | rfl <;> rcases hr with rfl | rfl <;> omega
/-- the middle of two neighbours is rounded to one of them -/
theorem near_mid {t b W p T P : Int} (n : Near t b W p) (hb : 0 < b) (hT : 4503599627370496 ≤ T) (hT2 : T < 9007199254740992) (hP : -1074 ≤ P) (h : t * G 0 = (2 * T + 1) * (G (P - 1) * b)) : p = P ∧ (W = T ∨ W = T + 1) := by
  have p0 := n.p0
  have D1 : ∀ e, 0 < G e * b := fun e => Int.mul_pos (G_pos _) hb
  have gd : ∀ {e : Int}, -2999 ≤ e → G e * b = 2 * (G (e - 1) * b) := fun {e} h => by rw [G_pred h, Int.mul_assoc]
  have gl : ∀ {e f : Int}, e ≤ f → G e * b ≤ G f * b := fun h => Int.mul_le_mul_of_nonneg_right (G_le h) (by omega)
  have hp : p = P := by
    rcases Int.lt_trichotomy p P with c | c | c
    · exfalso
      have a := n.a
      rw [h] at a
      have w1 := n.w1
      have a2 : (2 * W + 1) * (G (p - 1) * b) ≤ 18014398509481985 * (G (p - 1) * b) := Int.mul_le_mul_of_nonneg_right (by omega) (Int.le_of_lt (D1 _))
      have a3 := gl (show p - 1 ≤ P - 1 - 1 by omega)
      have a4 := gd (e := P - 1) (by omega)
      have a5 : 9007199254740993 * (G (P - 1) * b) ≤ (2 * T + 1) * (G (P - 1) * b) := Int.mul_le_mul_of_nonneg_right (by omega) (Int.le_of_lt (D1 _))
      have a6 := D1 (P - 1 - 1)
      omega
    · exact c
    · exfalso
      have c1 := n.c (by omega)
      rw [h] at c1
      have a3 := gl (show P ≤ p - 1 by omega)
      have a4 := gd (e := p) (by omega)
      have a7 := gd (e := P) (by omega)
      have a5 : (2 * T + 1) * (G (P - 1) * b) ≤ 18014398509481983 * (G (P - 1) * b) := Int.mul_le_mul_of_nonneg_right (by omega) (Int.le_of_lt (D1 _))
      have a6 := D1 (P - 1)
      omega
  subst hp
  refine ⟨rfl, ?_⟩
  have a := n.a
  have l := n.l
  rw [h] at a l
  have a' := Int.le_of_mul_le_mul_right a (D1 _)
  have l' := Int.le_of_mul_le_mul_right l (D1 _)
  omega
end Nu

set_option Elab.async false
set_option linter.all false
set_option maxRecDepth 100000
set_option maxHeartbeats 4000000
namespace Rd
open PySem PySem.Spec L2
section
variable {X : Cx}
theorem pgE (x : Str) {i : Int} {pos : Pos} (hm : ∃ t, X.mg x = some (.int i t)) (hg : Gl X x := by rfl) (hd : (x == ("__debug__" : Str)) = false := by decide) : PE X (.Name x pos) (tC (.int i)) := by
  obtain ⟨t, h⟩ := hm
  exact pe_glob hg h ⟨t, rfl⟩ hd
/-- e.f, as a target -/
def gFld (K : PySem.W.Frag) (to : TE) (f : Str) : TG := fun v σ H Q => to σ H fun x H1 => ∃ a C dx fs, x = .ref a ∧ H1 a = some (.ins C dx fs) ∧ Cls K C ∧ NoAttr K C f ∧ fs.length < 1000 ∧ Q σ (upd H1 a (.ins C dx (putF f v fs)))
theorem pg_fld {o : Expr} {f : Str} {pos : Pos} {to : TE} (ho : PE X o to) : PG X (.Attribute o f pos) (gFld X.K to f) := by
  refine ⟨fun pins s σ H v u Q I r h => ?_⟩
  rw [assign_Attribute]
  refine wpAny_bind (wpAny_holding (thn (ho.run pins s σ H _ I h) fun ov s1 ⟨x, H1, I1, r1, a, C, dx, fs, ex, ea, c, n, l, q1⟩ => ?_))
  subst ex
  obtain rfl : ov = Value.ref a := r1
  refine wpAny_bind (wpAny_standAt (wpAny_bind (wpAny_holding (setattr_ok I1 ea c n l r fun s3 I3 => ?_))))
  exact wpAny_release ⟨σ, _, I3, q1⟩
end
theorem same_get {H H' : Hp} {a : Addr} {o : HO} (s : Same H H') (h : H a = some o) : H' a = some o := s a o h
theorem same_upd {H : Hp} {a : Addr} {o : HO} (h : H a = none) : Same H (upd H a o) := fun b u e => by rw [upd_ne (ne_of_none e h)]; exact e
section
variable {σ : L2.St} {H : Hp} {Q : VK} {ta tb te : TE} {x y v : V} {K : PySem.W.Frag} {xs : List V}
theorem w_tupI (hl : xs.length ≤ 1000) (q : ∀ p H', Same H H' → H p = none → H' p = some (.tup xs) → Q (.ref p) H') : TupK xs H Q :=
  ⟨Nat.le_trans hl (by decide), fun p hp => q p _ (same_upd hp) hp upd_same⟩
theorem w_lstI (hl : xs.length ≤ 1000) (q : ∀ p H', Same H H' → H p = none → H' p = some (.lst xs) → Q (.ref p) H') : LstK xs H Q :=
  ⟨Nat.le_trans hl (by decide), fun p hp => q p _ (same_upd hp) hp upd_same⟩
theorem w_tup1 {x1 : V} (q : ∀ p H', Same H H' → H p = none → H' p = some (.tup [x1]) → Q (.ref p) H') : TupK [x1] H Q := w_tupI (by show 1 ≤ 1000; decide) q
theorem w_lst1 {x1 : V} (q : ∀ p H', Same H H' → H p = none → H' p = some (.lst [x1]) → Q (.ref p) H') : LstK [x1] H Q := w_lstI (by show 1 ≤ 1000; decide) q
theorem w_tup2 {x1 x2 : V} (q : ∀ p H', Same H H' → H p = none → H' p = some (.tup [x1, x2]) → Q (.ref p) H') : TupK [x1, x2] H Q := w_tupI (by show 2 ≤ 1000; decide) q
theorem w_lst2 {x1 x2 : V} (q : ∀ p H', Same H H' → H p = none → H' p = some (.lst [x1, x2]) → Q (.ref p) H') : LstK [x1, x2] H Q := w_lstI (by show 2 ≤ 1000; decide) q
theorem w_tup3 {x1 x2 x3 : V} (q : ∀ p H', Same H H' → H p = none → H' p = some (.tup [x1, x2, x3]) → Q (.ref p) H') : TupK [x1, x2, x3] H Q := w_tupI (by show 3 ≤ 1000; decide) q
theorem w_lst4 {x1 x2 x3 x4 : V} (q : ∀ p H', Same H H' → H p = none → H' p = some (.lst [x1, x2, x3, x4]) → Q (.ref p) H') : LstK [x1, x2, x3, x4] H Q := w_lstI (by show 4 ≤ 1000; decide) q
theorem w_lst3 {x1 x2 x3 : V} (q : ∀ p H', Same H H' → H p = none → H' p = some (.lst [x1, x2, x3]) → Q (.ref p) H') : LstK [x1, x2, x3] H Q := w_lstI (by show 3 ≤ 1000; decide) q
theorem w_in {p : Addr} (h : H p = some (.tup xs)) (f1 : flatV x = true) (f2 : xs.all flatV = true) (q : Q (.bl (inV x xs)) H) : rIn K false x (.ref p) H Q := ⟨p, xs, rfl, .inr (SqT.of h), f1, f2, q⟩
theorem w_nin {p : Addr} (h : H p = some (.tup xs)) (f1 : flatV x = true) (f2 : xs.all flatV = true) (q : Q (.bl (!inV x xs)) H) : rIn K true x (.ref p) H Q := ⟨p, xs, rfl, .inr (SqT.of h), f1, f2, q⟩
theorem w_gtup {n : Nat} {t : TGs} {a : Addr} {Q : L2.St → Hp → Prop} (h : H a = some (.tup xs)) (hn : xs.length = n) (q : t xs σ H Q) : gTup K n t (.ref a) σ H Q := ⟨a, xs, rfl, SqT.of h, hn, q⟩
theorem w_gcons {t : TG} {u : TGs} {v : V} {r : List V} {Q : L2.St → Hp → Prop} (h : t v σ H fun σ' H' => u r σ' H' Q) : gCons t u (v :: r) σ H Q := ⟨v, r, rfl, h⟩
theorem w_gnil {Q : L2.St → Hp → Prop} (h : Q σ H) : gNil [] σ H Q := ⟨rfl, h⟩
theorem w_ixT {p : Addr} {i : Int} (h : H p = some (.tup xs)) (ha : atI xs i = some v) (q : Q v H) : rIxT K (.ref p) (.int i) H Q := ⟨p, xs, i, v, rfl, rfl, SqT.of h, ha, q⟩
theorem w_ixL {p : Addr} {i : Int} (h : H p = some (.lst xs)) (ha : atI xs i = some v) (q : Q v H) : rIxL K (.ref p) (.int i) H Q := ⟨p, xs, i, v, rfl, rfl, SqL.of h, ha, q⟩
theorem w_isN (q : Q (.bl (decide (x = .non))) H) : (V.non = .non ∧ Q (.bl (decide (x = .non))) H) := ⟨rfl, q⟩
theorem dec_ii {i j : Int} : decide (V.int i = V.int j) = decide (i = j) := by
  by_cases h : i = j
  · subst h; simp
  · rw [decide_eq_false h, decide_eq_false (fun e => h (V.int.inj e))]
theorem dec_ss {i j : Str} : decide (V.str i = V.str j) = decide (i = j) := by
  by_cases h : i = j
  · subst h; simp
  · rw [decide_eq_false h, decide_eq_false (fun e => h (V.str.inj e))]
theorem dec_is {i : Int} {j : Str} : decide (V.int i = V.str j) = false := decide_eq_false (fun e => nomatch e)
theorem dec_si {i : Int} {j : Str} : decide (V.str j = V.int i) = false := decide_eq_false (fun e => nomatch e)
/-- the test of two ints for equality -/
theorem w_eqI {i j : Int} (q : Q (.bl (decide (i = j))) H) : rEq (.int i) (.int j) H Q := ⟨rfl, by rw [dec_ii]; exact q⟩
theorem w_neI {i j : Int} (q : Q (.bl (!decide (i = j))) H) : rNe (.int i) (.int j) H Q := ⟨rfl, by rw [dec_ii]; exact q⟩
theorem w_eqS {i j : Str} (q : Q (.bl (decide (i = j))) H) : rEq (.str i) (.str j) H Q := ⟨rfl, by rw [dec_ss]; exact q⟩
theorem w_eqIS {i : Int} {j : Str} (q : Q (.bl false) H) : rEq (.int i) (.str j) H Q := ⟨rfl, by rw [dec_is]; exact q⟩
theorem w_eqSI {i : Int} {j : Str} (q : Q (.bl false) H) : rEq (.str j) (.int i) H Q := ⟨rfl, by rw [dec_si]; exact q⟩
/-- the object ahead of a method's call -/
def MethK (C : Addr) (m : Str) (R : V → Hp → Prop) (x : V) (H : Hp) : Prop := ∃ a dx fs, x = .ref a ∧ H a = some (.ins C dx fs) ∧ fs.lookup m = none ∧ R x H
theorem w_meth {C : Addr} {m : Str} {sp : Sp} {dvs : List V} {E : XK} {t : TA} (h : ta σ H fun x H1 => MethK C m (fun x H1 => t σ H1 fun vs H2 => sp (x :: (vs ++ dvs)) H2 Q E) x H1) : tMeth C m sp dvs E ta t σ H Q := h
theorem w_methI {C : Addr} {m : Str} {R : V → Hp → Prop} {a dx : Addr} {fs : List (Str × V)} (h : H a = some (.ins C dx fs)) (l : fs.lookup m = none) (q : R (.ref a) H) : MethK C m R (.ref a) H := ⟨a, dx, fs, rfl, h, l, q⟩
theorem w_nn {R : Prop} (q : R) : V.non = V.non ∧ R := ⟨rfl, q⟩
end
/-- a class whose __init__ has defaults dvs behind what is written -/
structure KnCD (P : Program) (w : World) (K : PySem.W.Frag) (mg : Str → Option Value) (base : Heap) (CX : CXT) (k : Nat) (x : Str) (C : Addr) (ps : List Str) (dvs : List V) (sp : Sp) : Prop where
  ex : ∃ f fd ds, mg x = some (.ref C) ∧ Mk K C f ∧ Vals dvs ds ∧ Binds K fd ps ds ∧ FnOk P w K mg base CX k f fd ps sp
theorem pkCD {X : Cx} {k j : Nat} {x : Str} {ps : List Str} {sp : Sp} {p pos : Pos} {e : Expr} {es : List Expr} {t : TA} {C : Addr} {dvs : List V} (h : KnCD X.prog X.w X.K X.mg X.base CX0 k x C ps dvs sp) (hr : Room j X.A) (ha : PA X (e :: es) t) (hj : k + 1 ≤ j := by decide) (hg : Gl X x := by rfl) (hdb : (x == ("__debug__" : Str)) = false := by decide)
    (he : starEach (e :: es) X.env = (false, eval e X.env) :: starEach es X.env := by rfl) (hpl : (backTo pos (starEach es X.env)).any (·.1) = false := by rfl) : PE X (.Call (.Name x p) (e :: es) [] pos) (tMake C sp dvs E0 t) := by
  obtain ⟨f, fd, ds, a, b, c, d, g⟩ := h.ex
  exact pe_make b g (hr.mono hj) hg a d c pass0 ha hdb he hpl
def MakeKD (C : Addr) (sp : Sp) (dvs vs : List V) (H1 : Hp) (Q : VK) (E : XK) : Prop := ∀ x dx, H1 x = none → H1 dx = none → dx ≠ x → sp (.ref x :: (vs ++ dvs)) (upd (upd H1 dx (.own x)) x (.ins C dx [])) (fun v H2 => v = .non ∧ Q (.ref x) H2) E
theorem w_makeD {C : Addr} {sp : Sp} {E : XK} {t : TA} {dvs : List V} {σ : L2.St} {H : Hp} {Q : VK} (h : t σ H fun vs H1 => MakeKD C sp dvs vs H1 Q E) : tMake C sp dvs E t σ H Q := h
/-- xs * k -/
theorem w_rep {l : Addr} {k : Int} {xs : List V} {H : Hp} {Q : VK} (h : H l = some (.lst xs)) (h1 : -(2 ^ 63) ≤ k) (h2 : k < 2 ^ 63) (h3 : xs.length * k.toNat ≤ sizeLine) (q : ∀ p H', Same H H' → H p = none → H' p = some (.lst (List.replicate k.toNat xs).flatten) → Q (.ref p) H') : rRep (.ref l) (.int k) H Q :=
  ⟨l, k, xs, rfl, rfl, h, h1, h2, h3, fun p hp => q p _ (same_upd hp) hp upd_same⟩
theorem w_lenL {p : Addr} {K : PySem.W.Frag} {xs : List V} {H : Hp} {R : List V → Prop} (h : H p = some (.lst xs)) (q : R xs) : ∃ p' ys, [V.ref p] = [V.ref p'] ∧ (SqL K H p' ys ∨ SqT K H p' ys) ∧ R ys := ⟨p, xs, rfl, .inl (SqL.of h), q⟩
/-- all but what stands at x is as it was -/
def Oth (x : Addr) (H H' : Hp) : Prop := ∀ b o, b ≠ x → H b = some o → H' b = some o
theorem Oth.refl {x : Addr} {H : Hp} : Oth x H H := fun _ _ _ e => e
theorem Oth.same {x : Addr} {H H1 H2 : Hp} (a : Oth x H H1) (s : Same H1 H2) : Oth x H H2 := fun b o hb e => s b o (a b o hb e)
theorem Oth.put {x : Addr} {H H1 : Hp} {o : HO} (a : Oth x H H1) : Oth x H (upd H1 x o) := fun b u hb e => by rw [upd_ne hb]; exact a b u hb e
theorem Oth.trans {x : Addr} {H H1 H2 : Hp} (a : Oth x H H1) (b : Oth x H1 H2) : Oth x H H2 := fun c o hc e => b c o hc (a c o hc e)
theorem Same.oth {x : Addr} {H H1 : Hp} (s : Same H H1) : Oth x H H1 := fun b o _ e => s b o e
end Rd

set_option Elab.async false
set_option linter.all false
set_option maxRecDepth 100000
set_option autoImplicit false
set_option maxHeartbeats 4000000
namespace Rd
open PySem PySem.Spec PyProof.Rows PySem.SeqAt L2
/-! bool - bool -/
theorem sub_bools (a b : Bool) : Gives (Builtin.«int.__sub__» ⟨[.bool a, .bool b], []⟩) (.int ((if a = true then (1 : Int) else 0) - if b = true then (1 : Int) else 0)) :=
  .of_wp fun M A E s Q h => by obtain ⟨hp, g, d, tk, os⟩ := s; wp_walk; exact ⟨_, rfl, h⟩
def rSubB : R2 := fun x y H Q => ∃ a b, x = .bl a ∧ y = .bl b ∧ Q (.int ((if a = true then (1 : Int) else 0) - if b = true then (1 : Int) else 0)) H
theorem op_sub_bb {X : Cx} : OpR X (binaryOp .Sub) rSubB := by
  intro pins s σ H x y v u Q I rx ry h
  obtain ⟨a, b, rfl, rfl, q⟩ := h
  cases rx
  cases ry
  exact binaryOp_gives (op := .Sub) (T := "bool") rfl rfl F.fills_bool_sub F.slot_bool_sub F.entry_int_sub (F.args_int_sub_2 _ _) (sub_bools a b) trivial ⟨.int _, H, I.tok _, ⟨_, rfl⟩, q⟩
theorem w_subB {H : Hp} {Q : VK} {a b : Bool} (q : Q (.int ((if a = true then (1 : Int) else 0) - if b = true then (1 : Int) else 0)) H) : rSubB (.bl a) (.bl b) H Q := ⟨a, b, rfl, rfl, q⟩
/-! == of instances without an __eq__ of their own -/
section
variable {prog : Program} {w : World} {A : Around} {E : Value → Shared → Prop} {s : Shared} {K : PySem.W.Frag} {x y C : Addr} {ox oy : Obj} {od od' : Option Obj}
theorem call_objEqO {Q : Value → Shared → Prop} (X : K.In s.heap) (I : PySem.W.InstAt s.heap x ox C od) (hm : PySem.W.mroIn K C (.type "object") = some true) (hx : s.heap.get? x = some ox) (hy : s.heap.get? y = some oy) (hxy : x ≠ y) (hnt : ox.cls ≠ .type "tuple") (hq : Q .notImplemented s) :
    wpAny (model prog w) A (call (.builtin "object.__eq__") [.ref x, .ref y]) Q E s :=
  wpAny_call (codeAny_call_builtin F.cmp_object.eq.plain F.cmpEntry_eq (PySem.W.check_slot F.cmpKind_eq F.cmpSplit_eq (I.type.andThen (PySem.W.looks_mroIn X hm)) (F.cmpArgs_eq _ _) (objEq_entry_other hxy hx hy hnt hq)))
theorem call_objEqS {Q : Value → Shared → Prop} (X : K.In s.heap) (I : PySem.W.InstAt s.heap x ox C od) (hm : PySem.W.mroIn K C (.type "object") = some true) (hq : Q (.bool true) s) :
    wpAny (model prog w) A (call (.builtin "object.__eq__") [.ref x, .ref x]) Q E s :=
  wpAny_call (codeAny_call_builtin F.cmp_object.eq.plain F.cmpEntry_eq (PySem.W.check_slot F.cmpKind_eq F.cmpSplit_eq (I.type.andThen (PySem.W.looks_mroIn X hm)) (F.cmpArgs_eq _ _) (objEq_entry_same hq)))
theorem rc_other (hu : A.units < cLine) (X : K.In s.heap) (I : PySem.W.InstAt s.heap x ox C od) (I' : PySem.W.InstAt s.heap y oy C od') (hx : s.heap.get? x = some ox) (hy : s.heap.get? y = some oy) (hnt : ox.cls ≠ .type "tuple") (hnt' : oy.cls ≠ .type "tuple") (hxy : x ≠ y)
    (hm : PySem.W.mroIn K C (.type "object") = some true) (hs : PySem.W.findIn K (.ref C) "__eq__" = some (some (.builtin "object.__eq__"))) : RcAt A s (.ref x) (.ref y) false := fun prog w E Q h => by
  have one : wpAny (model prog w) A (tryCompare (.ref x) "__eq__" (.ref y)) (fun r s' => r = none ∧ s' = s) E s := by
    unfold tryCompare
    exact wpAny_bind (HN.ifBound_objEq X I hs (call_objEqO X I hm hx hy hxy hnt (wpAny_pure ⟨rfl, rfl⟩)))
  have two : wpAny (model prog w) A (tryCompare (.ref y) "__eq__" (.ref x)) (fun r s' => r = none ∧ s' = s) E s := by
    unfold tryCompare
    exact wpAny_bind (HN.ifBound_objEq X I' hs (call_objEqO X I' hm hy hx hxy.symm hnt' (wpAny_pure ⟨rfl, rfl⟩)))
  simp only [richCompare, cmpInfo_Eq, oneThing_ref]
  refine wpAny_holding (wpAny_bind (wpAny_cRoomFor hu ?_))
  refine wpAny_bind (I.type.here ?_)
  refine wpAny_bind (I'.type.here ?_)
  rw [if_neg (by simp)]
  refine wpAny_bind (wpAny_pure ?_)
  simp only [Bool.false_eq_true, if_false, Bool.not_false, if_true]
  refine wpAny_bind (m := tryCompare (.ref x) _ (.ref y)) (wpAny_mono one (fun r s1 z => ?_) fun _ _ e => e)
  obtain ⟨z1, z2⟩ := z
  subst z1
  subst z2
  refine wpAny_bind (m := tryCompare (.ref y) _ (.ref x)) (wpAny_mono two (fun r s2 z => ?_) fun _ _ e => e)
  obtain ⟨z1, z2⟩ := z
  subst z1
  subst z2
  exact wpAny_bind (wpAny_rule (wpAny_bind (wpAny_isSame_ref_other hxy hx hy hnt (wpAny_pure h))))
theorem rc_self (hu : A.units < cLine) (X : K.In s.heap) (I : PySem.W.InstAt s.heap x ox C od) (hm : PySem.W.mroIn K C (.type "object") = some true) (hs : PySem.W.findIn K (.ref C) "__eq__" = some (some (.builtin "object.__eq__"))) : RcAt A s (.ref x) (.ref x) true := fun prog w E Q h => by
  have one : wpAny (model prog w) A (tryCompare (.ref x) "__eq__" (.ref x)) (fun r s' => r = some (.bool true) ∧ s' = s) E s := by
    unfold tryCompare
    exact wpAny_bind (HN.ifBound_objEq X I hs (call_objEqS X I hm (wpAny_pure ⟨rfl, rfl⟩)))
  simp only [richCompare, cmpInfo_Eq, oneThing_ref]
  refine wpAny_holding (wpAny_bind (wpAny_cRoomFor hu ?_))
  refine wpAny_bind (I.type.here ?_)
  refine wpAny_bind (I.type.here ?_)
  rw [if_neg (by simp)]
  refine wpAny_bind (wpAny_pure ?_)
  simp only [Bool.false_eq_true, if_false, Bool.not_false, if_true]
  refine wpAny_bind (m := tryCompare (.ref x) _ (.ref x)) (wpAny_mono one (fun r s1 z => ?_) fun _ _ e => e)
  obtain ⟨z1, z2⟩ := z
  subst z1
  subst z2
  exact wpAny_pure h
theorem rc_none2 (hu : A.units < cLine) (X : K.In s.heap) (I : PySem.W.InstAt s.heap x ox C od) (hm : PySem.W.mroIn K C (.type "object") = some true) (hs : PySem.W.findIn K (.ref C) "__eq__" = some (some (.builtin "object.__eq__")))
    (hsub : PySem.W.subIn K (.ref C) (.type "NoneType") = some false) : RcAt A s .none (.ref x) false := fun prog w E Q h => by
  have one : wpAny (model prog w) A (tryCompare (.ref x) "__eq__" .none) (fun r s' => r = none ∧ s' = s) E s := by
    unfold tryCompare
    exact wpAny_bind (HN.ifBound_objEq X I hs (HN.call_objEq X I hm (wpAny_pure ⟨rfl, rfl⟩)))
  have two : wpAny (model prog w) A (tryCompare .none "__eq__" (.ref x)) (fun r s' => r = none ∧ s' = s) E s :=
    wpAny_tryCompare_declines (show s.TypeIs .none "NoneType" from rfl) F.slot_NoneType_eq_refl (call_gives F.slot_NoneType_eq_refl rfl F.entry_NoneType_eq (F.args_NoneType_eq_2 _ _) (NoneType___eq___none_ref_0 x) ⟨rfl, rfl, rfl⟩)
  simp only [richCompare, cmpInfo_Eq]
  refine wpAny_holding (wpAny_bind (wpAny_cRoomFor hu ?_))
  refine wpAny_bind (wpAny_typeOf (show s.TypeIs .none "NoneType" from rfl) ?_)
  refine wpAny_bind (I.type.here ?_)
  rw [if_pos (by simp)]
  refine wpAny_bind ((PySem.W.looks_subIn X hsub).here ?_)
  simp only [Bool.false_eq_true, if_false, Bool.not_false, if_true]
  refine wpAny_bind (m := tryCompare .none _ (.ref x)) (wpAny_mono two (fun r s1 z => ?_) fun _ _ e => e)
  obtain ⟨z1, z2⟩ := z
  subst z1
  subst z2
  refine wpAny_bind (m := tryCompare (.ref x) _ .none) (wpAny_mono one (fun r s2 z => ?_) fun _ _ e => e)
  obtain ⟨z1, z2⟩ := z
  subst z1
  subst z2
  exact wpAny_bind (wpAny_rule (wpAny_bind (wpAny_of_eq (rfl : isSame .none (.ref x) = pure false) (wpAny_pure h))))
end
/-- what the text's class at C must have for the == of object -/
structure ObjC (K : PySem.W.Frag) (C : Addr) : Prop where
  hm : PySem.W.mroIn K C (.type "object") = some true
  hs : PySem.W.findIn K (.ref C) "__eq__" = some (some (.builtin "object.__eq__"))
  hn : PySem.W.subIn K (.ref C) (.type "NoneType") = some false
def InsV (C : Addr) (H : Hp) (x : V) : Prop := ∃ a dx fs, x = .ref a ∧ H a = some (.ins C dx fs)
def rEqO (C : Addr) : R2 := fun x y H Q => (scal x y = true ∨ (InsV C H x ∧ (y = .non ∨ InsV C H y)) ∨ (x = .non ∧ InsV C H y)) ∧ Q (.bl (decide (x = y))) H
theorem op_eqO {X : Cx} {C : Addr} (hu : X.A.units < cLine) (O : ObjC X.K C) : OpR X (compareOp .Eq) (rEqO C) := by
  intro pins s σ H x y v u Q I rx ry h
  obtain ⟨c, q⟩ := h
  rcases c with c | ⟨⟨a, dx, fs, rfl, ha⟩, c⟩ | ⟨rfl, ⟨b, dy, gs, rfl, hb⟩⟩
  · exact op_eq pins s σ H x y v u Q I rx ry ⟨c, q⟩
  · cases rx
    obtain ⟨mA, OA, _⟩ := ins_get I.hok ha
    obtain ⟨od, J, _⟩ := OA.look
    have ga : s.heap.get? a = some (PySem.W.instObj C dx) := OA.obj
    rcases c with rfl | ⟨b, dy, gs, rfl, hb⟩
    · cases ry
      show wpAny (model X.prog X.w) X.A (richCompare .Eq _ _) (EP X pins σ Q) X.xe s
      refine HN.rc_none hu I.kIn J O.hm O.hs X.prog X.w X.xe _ ⟨.bl false, H, I, rfl, ?_⟩
      rw [decide_eq_false (fun e => nomatch e)] at q
      exact q
    · cases ry
      obtain ⟨mB, OB, _⟩ := ins_get I.hok hb
      obtain ⟨od', J', _⟩ := OB.look
      have gb : s.heap.get? b = some (PySem.W.instObj C dy) := OB.obj
      show wpAny (model X.prog X.w) X.A (richCompare .Eq _ _) (EP X pins σ Q) X.xe s
      by_cases hab : a = b
      · subst hab
        refine rc_self hu I.kIn J O.hm O.hs X.prog X.w X.xe _ ⟨.bl true, H, I, rfl, ?_⟩
        rw [decide_eq_true rfl] at q
        exact q
      · refine rc_other hu I.kIn J J' ga gb (by intro e; cases e) (by intro e; cases e) hab O.hm O.hs X.prog X.w X.xe _ ⟨.bl false, H, I, rfl, ?_⟩
        rw [decide_eq_false (fun e => hab (V.ref.inj e))] at q
        exact q
  · cases rx
    cases ry
    obtain ⟨mB, OB, _⟩ := ins_get I.hok hb
    obtain ⟨od', J', _⟩ := OB.look
    show wpAny (model X.prog X.w) X.A (richCompare .Eq _ _) (EP X pins σ Q) X.xe s
    refine rc_none2 hu I.kIn J' O.hm O.hs O.hn X.prog X.w X.xe _ ⟨.bl false, H, I, rfl, ?_⟩
    rw [decide_eq_false (fun e => nomatch e)] at q
    exact q
end Rd

set_option Elab.async false
set_option linter.all false
set_option maxRecDepth 100000
set_option autoImplicit false
set_option maxHeartbeats 4000000
namespace Rd
open PySem PySem.Spec PyProof.Rows L2
section
variable {σ : L2.St} {H : Hp} {Q : VK} {K : PySem.W.Frag}
theorem w_int1 {R : Int → Prop} {S : Bool → Prop} {i : Int} (q : R i) : (∃ i', [V.int i] = [V.int i'] ∧ R i') ∨ (∃ k, [V.int i] = [V.bl k] ∧ S k) := .inl ⟨i, rfl, q⟩
theorem w_intB {R : Int → Prop} {S : Bool → Prop} {k : Bool} (q : S k) : (∃ i', [V.bl k] = [V.int i'] ∧ R i') ∨ (∃ k', [V.bl k] = [V.bl k'] ∧ S k') := .inr ⟨k, rfl, q⟩
theorem w_gsub {to ti : TE} {t : TSet} {v : V} {Q : L2.St → Hp → Prop} (h : to σ H fun o H1 => ti σ H1 fun i H2 => t o i v H2 fun H3 => Q σ H3) : gSub to ti t v σ H Q := h
theorem w_setL {p : Addr} {xs : List V} {k : Int} {j : Nat} {v : V} {Q : Hp → Prop} (h : H p = some (.lst xs)) (hj : ixN xs.length k = some j) (q : Q (upd H p (.lst (xs.set j v)))) : rSetL (.ref p) (.int k) v H Q := ⟨p, xs, k, j, rfl, rfl, h, hj, q⟩
theorem w_for {wi : TI} {g : TG} {tb : TS} {D : Ends} (h : wi σ H fun J H1 => ∃ W : Nat → Nat → L2.St → Hp → Prop, (∃ m, W 0 m σ H1) ∧ ∀ i m σ H, W i m σ H →
  (J.stop i H ∧ D.nx σ H) ∨ (J.go i H ∧ ∃ N : L2.St → Hp → Prop, (∀ σ' H', N σ' H' → ∃ m', m' < m ∧ W (i + 1) m' σ' H') ∧ ∀ x H', J.yld i H x H' → g x σ H' fun σ2 H2 => tb { D with nx := N, ct := N, bk := D.nx } σ2 H2)) : tFor wi g tb D σ H := h
def Rng1K (R : It → Hp → Prop) (j : Int) (H : Hp) : Prop := -(2 ^ 62) ≤ j ∧ j < 2 ^ 62 ∧ R (Itr 0 j.toNat) H
theorem w_rng1 {ta : TA} {R : It → Hp → Prop} (h : ta σ H fun vs H1 => ∃ j : Int, vs = [.int j] ∧ -(2 ^ 62) ≤ j ∧ j < 2 ^ 62 ∧ R (Itr 0 j.toNat) H1) : iRng1 ta σ H R := h
theorem w_iList {tl : TE} {R : It → Hp → Prop} (h : tl σ H fun x H1 => ∃ a, x = .ref a ∧ (∃ xs, SqL K H1 a xs) ∧ R (Itl K a) H1) : iList K tl σ H R := h
theorem w_iTup {tl : TE} {R : It → Hp → Prop} (h : tl σ H fun x H1 => ∃ a, x = .ref a ∧ (∃ xs, SqT K H1 a xs) ∧ R (Itt K a) H1) : iTup K tl σ H R := h
theorem w_rng1I {R : Int → Prop} {j : Int} (h1 : -(2 ^ 62) ≤ j) (h2 : j < 2 ^ 62) (q : R j) : ∃ j' : Int, [V.int j] = [V.int j'] ∧ -(2 ^ 62) ≤ j' ∧ j' < 2 ^ 62 ∧ R j' := ⟨j, rfl, h1, h2, q⟩
theorem w_iListI {R : Addr → Prop} {a : Addr} {xs : List V} (h : H a = some (.lst xs)) (q : R a) : ∃ a', V.ref a = .ref a' ∧ (∃ xs, SqL K H a' xs) ∧ R a' := ⟨a, rfl, ⟨xs, SqL.of h⟩, q⟩
theorem w_iTupI {R : Addr → Prop} {a : Addr} {xs : List V} (h : H a = some (.tup xs)) (q : R a) : ∃ a', V.ref a = .ref a' ∧ (∃ xs, SqT K H a' xs) ∧ R a' := ⟨a, rfl, ⟨xs, SqT.of h⟩, q⟩
/-- xs + ys, lists -/
theorem w_cat {l b : Addr} {xs zs : List V} (h : H l = some (.lst xs)) (h' : H b = some (.lst zs)) (hz : xs.length + zs.length ≤ sizeLine) (q : ∀ p H', Same H H' → H p = none → H' p = some (.lst (xs ++ zs)) → Q (.ref p) H') : rCat (.ref l) (.ref b) H Q :=
  ⟨l, b, xs, zs, rfl, rfl, h, h', hz, fun p hp => q p _ (same_upd hp) hp upd_same⟩
end
theorem cmulW {i j : Int} (h : (Builtin.Int.intBits i : Int) + (Builtin.Int.intBits j : Int) ≤ 134217728) : CMulX i j := h
theorem cpow {i j : Int} (h0 : 0 ≤ j) (h1 : j ≤ 1000000) (h2 : i.natAbs < 2 ^ 64) : CPow i j := ⟨h0, h1, h2⟩
end Rd

set_option Elab.async false
set_option linter.all false
set_option maxRecDepth 100000
set_option autoImplicit false
set_option maxHeartbeats 4000000
namespace Rd
open PySem PySem.Spec PyProof.Rows L2
theorem pe_nev {X : Cx} {e : Expr} : PE X e (fun _ _ _ => False) := ⟨fun _ _ _ _ _ _ h => h.elim⟩
section
variable {σ : L2.St} {H : Hp}
theorem w_while {tc : TT} {tb : TS} {D : Ends} (W : Nat → L2.St → Hp → Prop) {m : Nat} (h0 : W m σ H)
    (h : ∀ m σ H, W m σ H → tc σ H fun b H1 => if b = true then ∃ N : L2.St → Hp → Prop, (∀ σ' H', N σ' H' → ∃ m', m' < m ∧ W m' σ' H') ∧ tb { D with nx := N, ct := N, bk := D.nx } σ H1 else D.nx σ H1) : tWhile tc tb D σ H := ⟨W, ⟨m, h0⟩, h⟩
theorem w_turn {W : Nat → L2.St → Hp → Prop} {m : Nat} {tb : TS} {D : Ends} (h : tb { D with nx := fun σ' H' => ∃ m', m' < m ∧ W m' σ' H', ct := fun σ' H' => ∃ m', m' < m ∧ W m' σ' H', bk := D.nx } σ H) : ∃ N : L2.St → Hp → Prop, (∀ σ' H', N σ' H' → ∃ m', m' < m ∧ W m' σ' H') ∧ tb { D with nx := N, ct := N, bk := D.nx } σ H := ⟨_, fun _ _ z => z, h⟩
end
/-- a if c else b, as a test -/
def tIfT (tc t u : TT) : TT := fun σ H Q => tc σ H fun c H1 => if c = true then t σ H1 Q else u σ H1 Q
theorem pt_ifExp {X : Cx} {c a b : Expr} {pos : Pos} {tc t u : TT} (hc : PT X c tc) (ha : PT X a t) (hb : PT X b u) : PT X (.IfExp c a b pos) (tIfT tc t u) := by
  refine ⟨fun pins s σ H Q I h => ?_⟩
  have e : ∀ wh, isTrue (.IfExp c a b pos) X.env wh = (do if ← isTrue c X.env (eval c X.env) then isTrue a X.env (eval a X.env) else isTrue b X.env (eval b X.env)) := fun wh => by rfl
  rw [e]
  refine wpAny_bind (thn (hc.run pins s σ H _ I h) fun d s1 ⟨H1, I1, q1⟩ => ?_)
  cases d with
  | true => exact ha.run pins s1 σ H1 Q I1 (by rw [if_pos rfl] at q1; exact q1)
  | false => exact hb.run pins s1 σ H1 Q I1 (by rw [if_neg Bool.false_ne_true] at q1; exact q1)
section
variable {σ : L2.St} {H : Hp}
theorem w_ifT {tc t u : TT} {Q : Bool → Hp → Prop} (h : tc σ H fun c H1 => if c = true then t σ H1 Q else u σ H1 Q) : tIfT tc t u σ H Q := h
theorem w_chain {r r' : R2} {ta tb tc : TE} {Q : VK} (h : ta σ H fun x H1 => tb σ H1 fun y H2 => r x y H2 fun z H3 => ∃ k, z = .bl k ∧ if k = true then tc σ H3 fun y' H4 => r' y y' H4 Q else Q (.bl false) H3) : tChain r r' ta tb tc σ H Q := h
/-- data, compared -/
theorem w_eqD {K : PySem.W.Frag} {x y : V} {d e : PyData} {Q : VK} (h1 : Dp K H x d) (h2 : Dp K H y e) (s1 : SeqAt.shaped d = true) (s2 : SeqAt.shaped e = true) (q : Q (.bl (PyData.eqv d e)) H) : rEqD K x y H Q := ⟨d, e, h1, h2, s1, s2, q⟩
end
end Rd

set_option Elab.async false
set_option linter.all false
set_option maxRecDepth 100000
set_option autoImplicit false
set_option maxHeartbeats 4000000
namespace Rd
open PySem PySem.Spec PyProof.Rows L2
/-- list + list, each as it stands, ours or the document's -/
def rCatS (K : PySem.W.Frag) : R2 := fun x y H Q => ∃ l b xs zs, x = .ref l ∧ y = .ref b ∧ SqL K H l xs ∧ SqL K H b zs ∧ xs.length + zs.length ≤ sizeLine ∧ ∀ p, H p = none → Q (.ref p) (upd H p (.lst (xs ++ zs)))
theorem op_catS {X : Cx} : OpR X (binaryOp .Add) (rCatS X.K) := by
  intro pins s σ H x y v u Q I rx ry h
  obtain ⟨l, b, xs, zs, rfl, rfl, hH, hB, hz, q⟩ := h
  cases rx
  cases ry
  obtain ⟨its, r, e, z⟩ := I.list hH
  obtain ⟨its2, r2, e2, z2⟩ := I.list hB
  have l1 := r.length
  have l2 := r2.length
  obtain ⟨⟨cls, dd, data, sl⟩, n, ho, hc, hd, hda⟩ := e
  obtain ⟨⟨cls2, dd2, data2, sl2⟩, n2, ho2, hc2, hd2, hda2⟩ := e2
  simp only at hc hd hda hc2 hd2 hda2
  subst hc hd hda hc2 hd2 hda2
  have ea : its.toArray ++ its2.toArray = (its ++ its2).toArray := by simp
  refine concat_meets ⟨_, ho, rfl⟩ ⟨_, ho2, rfl⟩ noFill_list_add seq_list_add PySem.F.slot_list_add PySem.F.entry_list_add (PySem.F.args_list_add_2 _ _) (list_addW l b its.toArray its2.toArray n n2 none none sl sl2 (by rw [List.size_toArray, List.size_toArray]; omega)) ⟨ho, ho2, ?_⟩
  rw [ea]
  exact ⟨.ref _, _, I.lnew (t' := s.toks) (r.append r2) (by rw [List.length_append]; omega), rfl, q _ I.fresh⟩
section
variable {σ : L2.St} {H : Hp} {Q : VK} {K : PySem.W.Frag}
theorem w_catS {l b : Addr} {xs zs : List V} (h : SqL K H l xs) (h' : H b = some (.lst zs)) (hz : xs.length + zs.length ≤ sizeLine) (q : ∀ p H', Same H H' → H p = none → H' p = some (.lst (xs ++ zs)) → Q (.ref p) H') : rCatS K (.ref l) (.ref b) H Q :=
  ⟨l, b, xs, zs, rfl, rfl, h, SqL.of h', hz, fun p hp => q p _ (same_upd hp) hp upd_same⟩
theorem w_sl {r : V → Option Int → Option Int → Hp → VK → Prop} {te : TE} {tl th : TO} (h : te σ H fun x H1 => tl σ H1 fun l H2 => th σ H2 fun u H3 => r x l u H3 Q) : tSl r te tl th σ H Q := h
theorem w_slL {a : Addr} {xs : List V} {lo hi : Option Int} (h : H a = some (.lst xs)) (q : ∀ p H', Same H H' → H p = none → H' p = some (.lst (cutV xs lo hi)) → Q (.ref p) H') : rSlL K (.ref a) lo hi H Q :=
  ⟨a, xs, rfl, SqL.of h, fun p hp => q p _ (same_upd hp) hp upd_same⟩
theorem w_noPart {Q : Option Int → Hp → Prop} (q : Q none H) : tNoPart σ H Q := q
theorem w_part {te : TE} {Q : Option Int → Hp → Prop} (h : te σ H fun x H' => ∃ i, x = .int i ∧ Q (some i) H') : tPart te σ H Q := h
theorem w_partI {R : Int → Prop} {i : Int} (h : R i) : ∃ j, V.int i = .int j ∧ R j := ⟨i, rfl, h⟩
theorem _root_.L2.SqL.same {a : Addr} {xs : List V} {H' : Hp} (h : SqL K H a xs) (s : Same H H') : SqL K H' a xs := by
  rcases h with h | h
  · rcases h with h | ⟨o, h⟩
    · exact .inl (.inl (s _ _ h))
    · exact .inl (.inr ⟨o, s _ _ h⟩)
  · exact .inr h
theorem cut_mem {xs : List V} {lo hi : Option Int} {x : V} (h : x ∈ cutV xs lo hi) : x ∈ xs := List.mem_of_mem_drop (List.mem_of_mem_take h)
end
theorem w_par3 {i j l : Nat} {ta : TA} {D : Ends} {σ : L2.St} {H : Hp} (h : ta σ H fun vs H1 => ∃ v1 v2 v3, vs = [v1, v2, v3] ∧ D.nx (((σ.set i (some v1)).set j (some v2)).set l (some v3)) H1) : tPar3 i j l ta D σ H := h
end Rd
namespace Nu
open PySem L2
theorem p70 : (2 ^ 70 : Nat) = 1180591620717411303424 := by decide
theorem ixN_nat {n : Nat} {r : Int} (h0 : 0 ≤ r) (h1 : r < n) : ixN n r = some r.toNat := by
  unfold ixN
  rw [if_pos h0, if_pos h1]
end Nu

set_option Elab.async false
set_option linter.all false
set_option maxRecDepth 100000
set_option autoImplicit false
set_option maxHeartbeats 4000000
/-! == and != by a text's own __eq__ -/
namespace Rd
open PySem PySem.Spec PyProof.Rows PySem.SeqAt L2
section
variable {prog : Program} {w : World} {A : Around} {E : Value → Shared → Prop} {s : Shared} {K : PySem.W.Frag} {x y C f : Addr} {ox oy : Obj} {od od' : Option Obj}
theorem ifBound_objNe {M : Model} {args : List Value} {Q : Option Value → Shared → Prop} (X : K.In s.heap) (I : PySem.W.InstAt s.heap x ox C od) (hs : PySem.W.findIn K (.ref C) "__ne__" = some (some (.builtin "object.__ne__")))
    (h : wpAny M A (call (.builtin "object.__ne__") (.ref x :: args)) (fun v => Q (some v)) E s) : wpAny M A (callSpecialIfBound? (.ref x) "__ne__" args) Q E s := by
  simp only [callSpecialIfBound?, bindSpecialIfBound?]
  refine wpAny_holding (wpAny_bind (wpAny_bind (wpAny_bind (I.type.here ((PySem.W.looks_findIn X hs).here ?_)))))
  refine wpAny_bind (wpAny_askSetting (wpAny_ite ?_))
  have fin : wpAny M A (call (.builtin "object.__ne__") ([.ref x] ++ args) >>= fun v => pure (some v)) Q E s := wpAny_bind (wpAny_mono h (fun v s' h' => wpAny_pure h') fun _ _ h' => h')
  split
  · exact wpAny_bind (wpAny_of_eq (F.cmp_object.ne.bind _) (wpAny_pure (by exact fin)))
  · exact wpAny_tryCatch (wpAny_bind (wpAny_of_eq (F.cmp_object.ne.bind _) (wpAny_pure (by exact fin))))
theorem objNe_own (X : K.In s.heap) (I : PySem.W.InstAt s.heap x ox C od) (hs : PySem.W.findIn K (.ref C) "__eq__" = some (some (.ref f))) (hf : PySem.W.isFn K (.ref f) = true) (hu : A.units < cLine) {Q : Fin → Shared → Prop}
    (hcall : wpAny (model prog w) A (call (.ref f) [.ref x, .ref y]) (fun v s' => ∃ b, v = .bool b ∧ Q (.done (.ret (.bool (!b)))) s') E s) :
    wpAny (model prog w) A (Builtin.«object.__ne__» ⟨[.ref x, .ref y], []⟩) Q E s := by
  obtain ⟨h, g, d, t, os⟩ := s
  unfold Builtin.«object.__ne__»
  repeat (first
    | with_reducible refine wpAny_cRoomFor hu ?_
    | (refine wpAny_bind (m := callSpecialIfBound? (.ref x) (Str.ofString "__eq__") [.ref y])
        (PySem.W.ifBound_K X I hs hf (wpAny_mono hcall (fun r s' hr => by
          obtain ⟨b, rfl, hq⟩ := hr
          repeat (first | exact hq | exact wpAny_pure hq | exact wpAny_truthy_bool hq | (refine wpAny_bind (m := truthy (.bool _)) (wpAny_truthy_bool ?_)) | wp_step)) fun _ _ e => e)))
    | wp_step)
theorem rcNe_own {Q : Value → Shared → Prop} (hu : A.units + 1 < cLine) (X : K.In s.heap) (I : PySem.W.InstAt s.heap x ox C od) (I' : PySem.W.InstAt s.heap y oy C od') (hm : PySem.W.mroIn K C (.type "object") = some true)
    (hn : PySem.W.findIn K (.ref C) "__ne__" = some (some (.builtin "object.__ne__"))) (hs : PySem.W.findIn K (.ref C) "__eq__" = some (some (.ref f))) (hf : PySem.W.isFn K (.ref f) = true)
    (hcall : wpAny (model prog w) A.in1 (call (.ref f) [.ref x, .ref y]) (fun v s' => ∃ b, v = .bool b ∧ Q (.bool (!b)) s') E s) :
    wpAny (model prog w) A (richCompare .NotEq (.ref x) (.ref y)) Q E s := by
  have one : wpAny (model prog w) A (tryCompare (.ref x) "__ne__" (.ref y)) (fun r s' => ∃ b, r = some (.bool b) ∧ Q (.bool b) s') E s := by
    unfold tryCompare
    refine wpAny_bind (ifBound_objNe X I hn (wpAny_call (codeAny_call_builtin F.cmp_object.ne.plain F.cmpEntry_ne (PySem.W.check_slot F.cmpKind_ne F.cmpSplit_ne (I.type.andThen (PySem.W.looks_mroIn X hm)) (F.cmpArgs_ne _ _)
      (objNe_own X I hs hf hu (wpAny_mono hcall (fun v s' hv => ?_) fun _ _ e => e))))))
    obtain ⟨b, rfl, hq⟩ := hv
    exact ⟨b, rfl, wpAny_pure ⟨_, rfl, hq⟩⟩
  simp only [richCompare, cmpInfo_NotEq, oneThing_ref]
  refine wpAny_holding (wpAny_bind (wpAny_cRoomFor (Nat.lt_of_succ_lt hu) ?_))
  refine wpAny_bind (I.type.here ?_)
  refine wpAny_bind (I'.type.here ?_)
  rw [if_neg (by simp)]
  refine wpAny_bind (wpAny_pure ?_)
  simp only [Bool.false_eq_true, if_false, Bool.not_false, if_true]
  refine wpAny_bind (m := tryCompare (.ref x) _ (.ref y)) (wpAny_mono one (fun r s1 z => ?_) fun _ _ e => e)
  obtain ⟨b, rfl, hq⟩ := z
  exact wpAny_pure hq
end
/-- what a class must have for == and != by its own __eq__ -/
structure EqC (K : PySem.W.Frag) (C : Addr) : Prop where
  hm : PySem.W.mroIn K C (.type "object") = some true
  hn : PySem.W.findIn K (.ref C) "__ne__" = some (some (.builtin "object.__ne__"))
def rOwn (C : Addr) (g : Bool → Bool) (sp : Sp) : R2 := fun x y H Q => ∃ a b dx dy fs gs, x = .ref a ∧ y = .ref b ∧ H a = some (.ins C dx fs) ∧ H b = some (.ins C dy gs) ∧ sp [.ref a, .ref b] H (fun v H' => ∃ k, v = .bl k ∧ Q (.bl (g k)) H') E0
section
variable {X : Cx} {k j : Nat} {C : Addr} {ps : List Str} {sp : Sp}
theorem op_eqOwn (h : KnM X.prog X.w X.K X.mg X.base CX0 k C "__eq__" ps sp) (hr : Room j X.A) (hj : k ≤ j := by decide) : OpR X (compareOp .Eq) (rOwn C id sp) := by
  obtain ⟨f, fd, M, b, F⟩ := h.ex
  intro pins s σ H x y v u Q I rx ry q
  obtain ⟨a, c, dx, dy, fs, gs, rfl, rfl, ha, hc, q⟩ := q
  cases rx
  cases ry
  obtain ⟨mA, J, _⟩ := ins_get I.hok ha
  obtain ⟨mB, J', _⟩ := ins_get I.hok hc
  obtain ⟨od, J, _⟩ := J.look
  obtain ⟨od', J', _⟩ := J'.look
  obtain ⟨m, hF⟩ := I.fr
  show wpAny (model X.prog X.w) X.A (richCompare .Eq (.ref a) (.ref c)) (EP X pins σ Q) X.xe s
  refine PySem.W.cmp_K (op := .Eq) (tb := .ref C) (hr.mono hj).units0 hF I.ok.mod.kin J J'.type (by simp [PySem.W.notFirst]) M.at_ M.fn ?_
  refine wpAny_mono (run_fn (us := [.ref a, .ref c]) (vs := [.ref a, .ref c]) F (hr.mono hj) b .nil pass0 I (.cons rfl (.cons rfl .nil)) q) (fun r s' z => ?_) fun _ _ e => e
  obtain ⟨z, H', I', rz, k', ez, hq⟩ := z
  subst ez
  cases rz
  exact ⟨.bl k', H', I', rfl, hq⟩
theorem op_neOwn (h : KnM X.prog X.w X.K X.mg X.base CX0 k C "__eq__" ps sp) (O : EqC X.K C) (hr : Room j X.A) (hj : k + 1 ≤ j := by decide) : OpR X (compareOp .NotEq) (rOwn C not sp) := by
  obtain ⟨f, fd, M, b, F⟩ := h.ex
  intro pins s σ H x y v u Q I rx ry q
  obtain ⟨a, c, dx, dy, fs, gs, rfl, rfl, ha, hc, q⟩ := q
  cases rx
  cases ry
  obtain ⟨mA, J, _⟩ := ins_get I.hok ha
  obtain ⟨mB, J', _⟩ := ins_get I.hok hc
  obtain ⟨od, J, _⟩ := J.look
  obtain ⟨od', J', _⟩ := J'.look
  have hr' : Room (k + 1) X.A := hr.mono hj
  show wpAny (model X.prog X.w) X.A (richCompare .NotEq (.ref a) (.ref c)) (EP X pins σ Q) X.xe s
  refine rcNe_own (by have := hr'.un; omega) I.kIn J J' O.hm O.hn M.at_ M.fn ?_
  have e0 : Env0 X.prog X.w X.K X.mg X.base X.A.in1 X.stack s H := by
    have e := I.env0
    exact ⟨e.frames, e.mod, e.bs, e.bsz, e.funs, e.frf, e.hok, e.bare⟩
  have hl := F.len _ _ _ _ q
  have r2 : Vals [V.ref a, V.ref c] [Value.ref a, Value.ref c] := .cons rfl (.cons rfl .nil)
  refine wpAny_call (codeAny_mono (F.run X.A.in1 X.stack s H ⟨[.ref a, .ref c], []⟩ [.ref a, .ref c] [.ref a, .ref c] _ E0 hr'.in1 e0 (by
    have := b s [.ref a, .ref c] I.kIn (by simpa using hl)
    simpa using this) r2 q) fun r s' hq => ?_)
  cases r with
  | error e => exact pass0 pins σ H s e s' I hq
  | ok fl =>
    cases fl with
    | ret w =>
      obtain ⟨z, H', I', rz, k', ez, hq2⟩ := I.after hq
      subst ez
      cases rz
      exact ⟨k', rfl, .bl (!k'), H', I', rfl, hq2⟩
    | next => exact False.elim hq
    | brk => exact False.elim hq
    | cont => exact False.elim hq
end
section
variable {C a b dx dy : Addr} {fs gs : List (Str × V)} {g : Bool → Bool} {sp : Sp} {H : Hp} {Q : VK}
theorem w_own (ha : H a = some (.ins C dx fs)) (hb : H b = some (.ins C dy gs)) (q : sp [.ref a, .ref b] H (fun v H' => ∃ k, v = .bl k ∧ Q (.bl (g k)) H') E0) : rOwn C g sp (.ref a) (.ref b) H Q :=
  ⟨a, b, dx, dy, fs, gs, rfl, rfl, ha, hb, q⟩
end
end Rd

set_option Elab.async false
set_option linter.all false
set_option maxRecDepth 100000
set_option autoImplicit false
set_option maxHeartbeats 4000000
/-! Own classes of exceptions over ArithmeticError, whose __init__ calls the base's and stores. -/
namespace Rd
open PySem PySem.Spec PyProof.Rows L2
abbrev aeMro : List Value := [.type "ArithmeticError", .type "Exception", .type "BaseException", .type "object"]
/-- what the text's class at C must have -/
structure AexC (K : PySem.W.Frag) (C : Addr) : Prop where
  made : PySem.W.excInitIn K C aeMro "ArithmeticError.__new__" = true
  over : PySem.W.excOver K C aeMro = true
  hdC : PySem.W.hasDictIn K C = true
  sa : PySem.W.findIn K (.ref C) "__setattr__" = some (some (.builtin "object.__setattr__"))
  exC : PySem.W.subIn K (.ref C) (.type "BaseException") = some true
  tyC : PySem.W.typeIn K (.ref C) = some (.type "type")
  kC : PySem.W.keepIn K (.ref C) = true
theorem aex_taker {K : PySem.W.Frag} {C : Addr} {f : Str} (n : PySem.W.findIn K (.ref C) f = some none) : PySem.W.takerIn K C f = some none := NoAttr.taker n
section
variable {X : Cx} {pins : List (Addr × Obj)} {σ : L2.St} {H : Hp} {s : Shared} {a C dx : Addr} {f : Str} {y : V} {u : Value} {fs : List (Str × V)} {Q : Unit → Shared → Prop} {E : Value → Shared → Prop} {A : Around}
theorem ast_new (T : AexC X.K C) (I : Inv X pins σ H s) (e : H a = some (exo a C none)) (hno : PySem.W.findIn X.K (.ref C) f = some none) (ry : RelV y u)
    (h : ∀ dx s', H dx = none → dx ≠ a → Inv X pins σ (upd (upd H a (exo a C (some dx))) dx (exd dx [(f, y)])) s' → Q () s') : wpAny (model X.prog X.w) A (setAttr (.ref a) f u) Q E s := by
  obtain ⟨t1, ho⟩ := exo_at I.hok e
  obtain ⟨cd, hc, hd'⟩ := PySem.W.any_some T.hdC
  obtain ⟨hp, g, d, t, os⟩ := s
  have an : a ≠ hp.objs.size := Nat.ne_of_lt (Heap.lt_size ho)
  refine PySem.W.set_plain I.kIn (ox := PySem.W.excObj C t1 none .none) (od := none) ⟨ho, rfl, rfl, trivial⟩ T.sa (PySem.W.osa_openX (od := none) PySem.F.store_ArithmeticError I.kIn ⟨ho, rfl, rfl, trivial⟩ T.over (aex_taker hno) fun b => ?_)
  refine wpAny_bind (wpAny_pure (wpAny_bind (PySem.W.instanceDict_exc (c2 := Value.none) ho (PySem.W.looks_clsIn I.kIn hc) hd' ?_)))
  refine PySem.HandSPX.store_in_new (dx := hp.objs.size) ?_ fun h' tk' hn hs => ?_
  · exact ⟨_, #[], _, (Heap.get?_update_ne _ _ _ _ an.symm).trans (Heap.get?_push_at rfl rfl), rfl, fun e he => absurd he (by simp), fun _ => rfl⟩
  · have hnd : H hp.objs.size = none := I.hok.fresh (Nat.le_refl _)
    have h1a : (hp.update a fun o => { o with dict := some hp.objs.size }).get? a = some (PySem.W.excObj C t1 (some hp.objs.size) .none) := Heap.get?_update_self _ ho rfl
    have J1 := I.write (t' := tk') (x := a) (e := a) (o := exo a C (some hp.objs.size)) (h' := hp.update a fun o => { o with dict := some hp.objs.size }) (by rw [e]; exact True.intro) (.inl rfl) (fun b o hb q => (Heap.get?_update_ne _ _ _ _ hb).trans q) ⟨_, h1a⟩ (exo_ok h1a)
    refine h hp.objs.size _ hnd an.symm (J1.laid (t' := tk') (a := hp.objs.size) (o := exd hp.objs.size [(f, y)]) (h' := h') (fun b o q => ?_) (by simp) (exd_ok hn (relO_put (fs := []) ry fun g => True.intro)))
    by_cases hb : b = a
    · subst hb
      refine (hs.2 _ an).trans ((Heap.get?_update_self _ (Heap.get?_push_of_some _ ho) rfl).trans ?_)
      exact h1a.symm.trans q
    · have q0 : hp.get? b = some o := (Heap.get?_update_ne _ _ _ _ hb).symm.trans q
      exact (hs.2 b (Nat.ne_of_lt (Heap.lt_size q0))).trans ((Heap.get?_update_ne _ _ _ _ hb).trans (Heap.get?_push_of_some _ q0))
theorem ast_old (T : AexC X.K C) (I : Inv X pins σ H s) (e : H a = some (exo a C (some dx))) (ed : H dx = some (exd dx fs)) (hl : fs.length ≤ 900) (hno : PySem.W.findIn X.K (.ref C) f = some none) (ry : RelV y u)
    (h : ∀ s', Inv X pins σ (upd H dx (exd dx ((f, y) :: fs))) s' → Q () s') : wpAny (model X.prog X.w) A (setAttr (.ref a) f u) Q E s := by
  obtain ⟨t1, ho⟩ := exo_at I.hok e
  obtain ⟨mA, hns, rel⟩ := exd_at I.hok ed
  have hw := within_of rel
  obtain ⟨cd, hc, hd'⟩ := PySem.W.any_some T.hdC
  obtain ⟨hp, g, d, t, os⟩ := s
  obtain ⟨oD, _, _, hoD, _, _⟩ := hns.count hw
  refine PySem.W.set_plain I.kIn (ox := PySem.W.excObj C t1 (some dx) .none) (od := some oD) ⟨ho, rfl, rfl, hoD⟩ T.sa (PySem.W.osa_openX (od := some oD) PySem.F.store_ArithmeticError I.kIn ⟨ho, rfl, rfl, hoD⟩ T.over (aex_taker hno) fun b => ?_)
  refine wpAny_bind (wpAny_pure (wpAny_bind (wpAny_bind (wpAny_loadPart ho (wpAny_bind ((PySem.W.looks_clsIn I.kIn hc).at ?_))))))
  rw [hd']
  refine wpAny_pure (a := some dx) (PySem.OEX.store_in_old hns hw (by rw [List.length_map]; omega) fun h' tk' hn hs => ?_)
  have hd : ∃ o, h'.get? dx = some o := by
    obtain ⟨o, _, _, e', _⟩ := hn
    exact ⟨o, e'⟩
  exact h _ (I.write (t' := tk') (x := dx) (e := dx) (o := exd dx ((f, y) :: fs)) (by rw [ed]; exact True.intro) (.inl rfl) (fun b o hb q => (hs.2 b hb).trans q) hd (exd_ok hn (relO_put ry rel)))
/-- the base's __init__: nothing of it is told -/
theorem ainit_ok {us : List Value} {Q : Value → Shared → Prop} (T : AexC X.K C) (I : Inv X pins σ H s) (e : H a = some (exo a C none)) (hl : us.length ≤ sizeLine) (h : ∀ s', Inv X pins σ H s' → Q .none s') :
    wpAny (model X.prog X.w) A (call (.builtin "ArithmeticError.__init__") (.ref a :: us)) Q E s := by
  obtain ⟨nm, N, q, bs, bm, hdct, sn, sub, ab, col, dd, k0, k1, k2, k3, k5, hC, hT⟩ := PySem.W.excInit_of I.kIn T.made
  obtain ⟨t1, ho⟩ := exo_at I.hok e
  obtain ⟨hp, g, d, t, os⟩ := s
  refine wpAny_call (PySem.HandSPX.init_base F.excBase_ArithmeticError hT hC ho hl fun h' t2 k hx => ?_)
  have J := I.write (t' := t) (x := a) (e := a) (o := exo a C none) (by rw [e]; exact True.intro) (.inl rfl) k ⟨_, hx⟩ (exo_ok hx)
  rw [show upd H a (exo a C none) = H from funext fun b => by by_cases hb : b = a <;> simp [upd, hb, e]] at J
  exact h _ J
end
end Rd
namespace Rd
open PySem PySem.Spec PyProof.Rows L2
theorem typ_AE : typeOf (.type "ArithmeticError") = pure (.type "type") := by kernel_rfl
/-- ArithmeticError.__init__(self, ..) -/
def tAI (K : PySem.W.Frag) (ta : TA) : TE := fun σ H Q => ta σ H fun vs H1 => ∃ (a C : Addr) (ws : List V), vs = .ref a :: ws ∧ ws.length ≤ 1000 ∧ AexC K C ∧ H1 a = some (exo a C none) ∧ Q .non H1
/-- self.f = e, self an exception that is being made -/
def tAst (K : PySem.W.Frag) (f : Str) (to te : TE) : TS := fun D σ H => te σ H fun y H1 => to σ H1 fun x H2 => ∃ a C : Addr, x = .ref a ∧ AexC K C ∧ PySem.W.findIn K (.ref C) f = some none ∧
  ((H2 a = some (exo a C none) ∧ ∀ dx, H2 dx = none → dx ≠ a → D.nx σ (upd (upd H2 a (exo a C (some dx))) dx (exd dx [(f, y)]))) ∨
    ∃ (dx : Addr) (fs : List (Str × V)), H2 a = some (exo a C (some dx)) ∧ H2 dx = some (exd dx fs) ∧ fs.length ≤ 900 ∧ D.nx σ (upd H2 dx (exd dx ((f, y) :: fs))))
section
variable {X : Cx} {o e : Expr} {es : List Expr} {to te : TE} {ta : TA} {f : Str} {p p' p1 p2 pos : Pos}
theorem pe_ainit {pl : Sem Bool} (hg : Gl X "ArithmeticError") (hm : X.mg "ArithmeticError" = none) (vV : PySem.W.findCls X.K (.type "ArithmeticError") (.type "type") "__init__" = some (.val (.builtin "ArithmeticError.__init__"))) (ha : PA X (e :: es) ta)
    (hc : eval (.Call (.Attribute (.Name "ArithmeticError" p1) "__init__" p2) (e :: es) [] pos) X.env = (do
      let ov ← eval (.Name "ArithmeticError" p1) X.env
      standAt p2.atName
      let (f, first) ← holding [ov] (getMethod ov "__init__" pl)
      callWith pos f first (backTo pos (starEach (e :: es) X.env)) (backToKw pos (keywordEach [] X.env))) := by rfl)
    (he : starEach (e :: es) X.env = (false, eval e X.env) :: starEach es X.env := by rfl) (hpl : (backTo pos (starEach es X.env)).any (·.1) = false := by rfl) :
    PE X (.Call (.Attribute (.Name "ArithmeticError" p1) "__init__" p2) (e :: es) [] pos) (tAI X.K ta) := by
  refine ⟨fun pins s σ H Q I h => PySem.W.methodCall_KW (ld_blt I hg hm PyProof.Rows.Boot.«ArithmeticError» ?_ (by decide) (by decide)) hc⟩
  obtain ⟨m, fr⟩ := I.fr
  refine PySem.W.method_type fr I.ok.mod.kin typ_AE (by decide +kernel) vV (by decide +kernel) ?_
  refine PyProof.Rows.callWith_method1 (thn (ha.run pos pins _ σ H _ (I.tok _) h) fun us s1 ⟨vs, H1, I1, r1, a, C, ws, ev, hl, T, ea, q⟩ => ?_) he hpl
  subst ev
  cases r1 with
  | @cons _ u0 _ ur ra rw' =>
    obtain rfl : u0 = Value.ref a := ra
    exact ainit_ok T I1 ea (by rw [← Paired.length rw', sizeLine_eq]; omega) fun s' J => ⟨.non, H1, J, rfl, q⟩
theorem ps_ast (ho : PE X o to) (he : PE X e te) (hs : swapsWith e (some (.Attribute o f p')) pos.line X.env = pure false := by rfl) : PS X (.Assign [.Attribute o f p'] e pos) (tAst X.K f to te) := by
  refine ⟨fun pins s σ H D I h => plainObj_wpAny_Assign_Attribute (thn (he.run pins s σ H _ I h) fun v s1 ⟨y, H1, I1, r1, q1⟩ => thn (ho.run pins s1 σ H1 _ I1 q1) fun u s2 ⟨x, H2, I2, r2, a, C, ex, T, hno, q⟩ => ?_) hs⟩
  subst ex
  obtain rfl : u = Value.ref a := r2
  rcases q with ⟨ea, q⟩ | ⟨dx, fs, ea, ed, hl, q⟩
  · exact ast_new T I2 ea hno r1 fun dx s' n ne J => ⟨σ, _, J, q dx n ne⟩
  · exact ast_old T I2 ea ed hl hno r1 fun s' J => ⟨σ, _, J, q⟩
/-- C(e, ..), C over ArithmeticError with its own __init__ -/
theorem pmk_aex {CX : CXT} {x : Str} {C fI : Addr} {k : Nat} {fd : FuncData} {ps : List Str} {sp : Sp} {ds : List Value} {dvs : List V} (T : AexC X.K C) (iC : PySem.W.findIn X.K (.ref C) "__init__" = some (some (.ref fI))) (tI : PySem.W.typeIn X.K (.ref fI) = some (.type "function"))
    (F1 : FnOk X.prog X.w X.K X.mg X.base CX k fI fd ps sp) (hr : Room (k + 1) X.A) (hb : Binds X.K fd ps ds) (hd : Vals dvs ds) (hx : Passes CX X (fun _ _ _ => False)) (hg : Gl X x) (hm : X.mg x = some (.ref C)) (ha : PA X (e :: es) ta)
    (hdb : (x == ("__debug__" : Str)) = false := by decide) (he : starEach (e :: es) X.env = (false, eval e X.env) :: starEach es X.env := by rfl) (hpl : (backTo pos (starEach es X.env)).any (·.1) = false := by rfl) :
    PMk X (.Call (.Name x p) (e :: es) [] pos) (tMkO C sp dvs ta) := by
  intro pins s σ H Q I h
  refine wpAny_Call_Name_kw (ld_glob I hg hm (PySem.W.callWith_K (h₀ := X.base) I.ok.mod.kin T.kC (thn (ha.run pos pins s σ H _ I h) fun us s1 ⟨vs, H1, I1, r1, hz, q1⟩ => ⟨I1.kIn, ?_⟩) he hpl) hdb)
  obtain ⟨nm, N, q, bs, bm, hdct, sn, sub, ab, col, dd, k0, k1, k2, k3, k5, hC, hT⟩ := PySem.W.excInit_of I1.kIn T.made
  show wpAny _ _ (call (.ref C) us) _ _ _
  obtain ⟨hp, g, dr, tk, os⟩ := s1
  have hsz : hp.objs.size ≤ hp.objs.size + 1 := Nat.le_succ _
  have hq := q1 (hp.objs.size + 1) (I1.hok.fresh hsz)
  have kk : ∀ b o, hp.get? b = some o → ((hp.push (PySem.W.kdv_tup us)).push (PySem.HandSPX.excO C hp.objs.size)).get? b = some o := fun b o z => Heap.get?_push_of_some _ (Heap.get?_push_of_some _ z)
  have I2 := I1.laid (t' := tk) (a := hp.objs.size + 1) (o := exo (hp.objs.size + 1) C none) (h' := (hp.push (PySem.W.kdv_tup us)).push (PySem.HandSPX.excO C hp.objs.size)) kk hsz (exo_ok (by heap_get))
  have r2 : Vals (V.ref (hp.objs.size + 1) :: (vs ++ dvs)) (Value.ref (hp.objs.size + 1) :: (us ++ ds)) := .cons rfl (r1.append hd)
  have hl : (Value.ref (hp.objs.size + 1) :: us ++ ds).length = ps.length := (r2.length.symm.trans (F1.len _ _ _ _ hq))
  refine wpAny_call (PySem.HandSPX.call_own F.excBase_ArithmeticError hT hC (PySem.W.looks_findIn I1.kIn iC) (fun self => PySem.W.bind_fn I1.kIn self tI) (by rw [← Paired.length r1, sizeLine_eq]; omega)
    (codeAny_mono (F1.run _ X.stack _ _ ⟨Value.ref (hp.objs.size + 1) :: us, []⟩ (Value.ref (hp.objs.size + 1) :: (us ++ ds)) _ _ (fun _ _ _ => False) (hr.make C us []) (I2.env0.make C us []) (hb _ (Value.ref (hp.objs.size + 1) :: us) I2.kIn hl) r2 hq) fun r s' hq' => ?_))
  match r, hq' with
  | .error er, hq' => exact hx pins σ _ _ er s' I2 hq'
  | .ok (.ret u), hq' =>
    obtain ⟨v, H2, os2, bare2, un2, hok2, rv, ev, d, fs, ea, ed, hd1, q2⟩ := hq'
    subst ev
    obtain ⟨h2, g2, d2, t2, os'⟩ := s'
    exact ⟨rv, mk_end (raises_own T.exC T.tyC) I1 hsz kk un2 hok2 os2 bare2 ea ed hd1 q2⟩
  | .ok .next, hq' => exact False.elim hq'
  | .ok .brk, hq' => exact False.elim hq'
  | .ok .cont, hq' => exact False.elim hq'
end
end Rd

set_option Elab.async false
set_option linter.all false
set_option maxRecDepth 100000
set_option autoImplicit false
set_option maxHeartbeats 4000000
/-! Thrown(value): its own __init__, raised, caught, its field read. -/
namespace Rd
open PySem PySem.Spec PyProof.Rows L2
/-- a statement, an expression that is never reached -/
theorem pe_never {X : Cx} {e : Expr} : PE X e (fun _ _ _ => False) := ⟨fun _ _ _ _ _ _ h => h.elim⟩
def thrFs (v : V) : List (Str × V) := [("level", .int 1), ("value", v)]
def spThr (C : Addr) : Sp := fun vs H Q _ => ∃ x v, vs = [.ref x, v, .int 1] ∧ H x = some (exo x C none) ∧
  ∀ d, H d = none → d ≠ x → Q .non (upd (upd (upd H x (exo x C (some d))) d (exd d [("value", v)])) d (exd d (thrFs v)))
/-- the class Thrown -/
structure KnTh (P : Program) (w : World) (K : PySem.W.Frag) (mg : Str → Option Value) (base : Heap) (C : Addr) : Prop where
  ex : ∃ f fd ds, mg "Thrown" = some (.ref C) ∧ AexC K C ∧ PySem.W.findIn K (.ref C) "__init__" = some (some (.ref f)) ∧ PySem.W.typeIn K (.ref f) = some (.type "function") ∧ Vals [V.int 1] ds ∧
    Binds K fd ["self", "value", "level"] ds ∧ FnOk P w K mg base CX0 1 f fd ["self", "value", "level"] (spThr C)
def tThr (C : Addr) (ta : TA) (W : WX) : TS := fun _ σ H => tMkO C (spThr C) [.int 1] ta σ H fun cls d H' => W cls d σ H'
section
variable {X : Cx} {C : Addr} {j : Nat} {a : Expr} {es : List Expr} {ta : TA} {p pos pos2 : Pos} {W : WX} {x : Str} {ps : List Str} {sp : Sp} {k : Nat}
theorem ps_thr (hc : X.calm = true) (h : KnTh X.prog X.w X.K X.mg X.base C) (hr : Room j X.A) (tk : Takes X W) (ha : PA X [a] ta) (hj : 2 ≤ j := by decide) (hg : Gl X "Thrown" := by rfl)
    (he : starEach (a :: []) X.env = (false, eval a X.env) :: starEach [] X.env := by rfl) (hpl : (backTo pos (starEach [] X.env)).any (·.1) = false := by rfl) :
    PS X (.Raise (some (.Call (.Name "Thrown" p) [a] [] pos)) none pos2) (tThr C ta W) := by
  obtain ⟨f, fd, ds, m, T, iC, tI, hd, hb, F⟩ := h.ex
  exact ps_raise hc tk (pmk_aex T iC tI F (hr.mono hj) hb hd pass0 hg m ha (by decide) he hpl)
/-- f(e, ..), f may raise -/
theorem pkX (h : Kn X.prog X.w X.K X.mg X.base (L2.CX X.prog X.w) k x ps sp) (hr : Room j X.A) (tk : Takes X W) (ha : PA X (a :: es) ta) (hj : k ≤ j := by decide) (hg : Gl X x := by rfl) (hdb : (x == ("__debug__" : Str)) = false := by decide)
    (he : starEach (a :: es) X.env = (false, eval a X.env) :: starEach es X.env := by rfl) (hpl : (backTo pos (starEach es X.env)).any (·.1) = false := by rfl) : PE X (.Call (.Name x p) (a :: es) [] pos) (tCallS sp (WE W) ta) := by
  obtain ⟨f, fd, m, kp, b, F⟩ := h.ex
  exact pe_callS F (hr.mono hj) hg m kp b (fun σ => passAt tk σ) ha hdb he hpl
end
section
variable {σ : L2.St} {H : Hp} {C : Addr} {W : WX} {D : Ends}
def MkOK (C : Addr) (sp : Sp) (dvs vs : List V) (H1 : Hp) (Q : XK) : Prop := vs.length ≤ 1000 ∧ ∀ a, H1 a = none → sp (.ref a :: (vs ++ dvs)) (upd H1 a (exo a C none))
  (fun v H2 => v = .non ∧ ∃ (d : Addr) (fs : List (Str × V)), H2 a = some (exo a C (some d)) ∧ H2 d = some (exd d fs) ∧ H1 d = none ∧ Q (.ref C) (some d) (upd (del H2 a) d (.xd fs))) (fun _ _ _ => False)
theorem w_thr {ta : TA} (h : ta σ H fun vs H1 => MkOK C (spThr C) [.int 1] vs H1 fun cls d H' => W cls d σ H') : tThr C ta W D σ H := h
theorem w_thrI {v : V} {Q : XK} (q : ∀ d H', Same H H' → H d = none → H' d = some (.xd (thrFs v)) → Q (.ref C) (some d) H') : MkOK C (spThr C) [.int 1] [v] H Q := by
  refine ⟨by show 1 ≤ 1000; decide, fun a ha => ⟨a, v, rfl, upd_same, fun d hd hda => ?_⟩⟩
  rw [upd_ne hda] at hd
  refine ⟨rfl, d, thrFs v, ?_, upd_same, hd, q d _ (fun b o e => ?_) hd upd_same⟩
  · rw [upd_ne (Ne.symm hda), upd_ne (Ne.symm hda), upd_same]
  · have ba : b ≠ a := ne_of_none e ha
    have bd : b ≠ d := ne_of_none e hd
    rw [upd_ne bd, del_ne ba, upd_ne bd, upd_ne bd, upd_ne ba, upd_ne ba]
    exact e
theorem w_callS {sp : Sp} {t : TA} {E : L2.St → XK} {Q : VK} (h : t σ H fun vs H1 => sp vs H1 Q (E σ)) : tCallS sp E t σ H Q := h
end
end Rd

set_option Elab.async false
set_option linter.all false
set_option maxRecDepth 100000
set_option autoImplicit false
set_option maxHeartbeats 4000000
/-! InvalidArgument(part): over an own class without an __init__, which calls that class's __init__ (the builtin one). -/
namespace Rd
open PySem PySem.Spec PyProof.Rows L2
/-- what the own class LuaError must have -/
structure LErrC (K : PySem.W.Frag) (C : Addr) : Prop where
  rd : PySem.W.readsIn K C (.type "type") = true
  ga : PySem.W.specialIn K (.ref C) "__getattribute__" = some (some (.builtin "type.__getattribute__"))
  ty : PySem.W.typeIn K (.ref C) = some (.type "type")
  vi : PySem.W.findCls K (.ref C) (.type "type") "__init__" = some (.val (.builtin "ArithmeticError.__init__"))
section
variable {X : Cx} {o e : Expr} {es : List Expr} {to te : TE} {ta : TA} {f x : Str} {CL : Addr} {p p' p1 p2 pos : Pos}
theorem pe_linit {pl : Sem Bool} (hg : Gl X x) (hm : X.mg x = some (.ref CL)) (L : LErrC X.K CL) (ha : PA X (e :: es) ta) (hdb : (x == ("__debug__" : Str)) = false := by decide)
    (hc : eval (.Call (.Attribute (.Name x p1) "__init__" p2) (e :: es) [] pos) X.env = (do
      let ov ← eval (.Name x p1) X.env
      standAt p2.atName
      let (f, first) ← holding [ov] (getMethod ov "__init__" pl)
      callWith pos f first (backTo pos (starEach (e :: es) X.env)) (backToKw pos (keywordEach [] X.env))) := by rfl)
    (he : starEach (e :: es) X.env = (false, eval e X.env) :: starEach es X.env := by rfl) (hpl : (backTo pos (starEach es X.env)).any (·.1) = false := by rfl) :
    PE X (.Call (.Attribute (.Name x p1) "__init__" p2) (e :: es) [] pos) (tAI X.K ta) := by
  refine ⟨fun pins s σ H Q I h => PySem.W.methodCall_KW (ld_glob I hg hm ?_ hdb) hc⟩
  obtain ⟨m, fr⟩ := I.fr
  refine PySem.W.method_of_cls fr I.ok.mod.kin L.ga (PySem.W.cls_val fr I.ok.mod.kin L.ty L.rd L.vi (by decide +kernel) ?_)
  refine PyProof.Rows.callWith_method1 (thn (ha.run pos pins _ σ H _ (I.tok _) h) fun us s1 ⟨vs, H1, I1, r1, a, C, ws, ev, hl, T, ea, q⟩ => ?_) he hpl
  subst ev
  cases r1 with
  | @cons _ u0 _ ur ra rw' =>
    obtain rfl : u0 = Value.ref a := ra
    exact ainit_ok T I1 ea (by rw [← Paired.length rw', sizeLine_eq]; omega) fun s' J => ⟨.non, H1, J, rfl, q⟩
end
def parFs (v : V) : List (Str × V) := [("part", v)]
def spInv (C : Addr) : Sp := fun vs H Q _ => ∃ x v, vs = [.ref x, v] ∧ H x = some (exo x C none) ∧ ∀ d, H d = none → d ≠ x → Q .non (upd (upd H x (exo x C (some d))) d (exd d (parFs v)))
/-- the class InvalidArgument -/
structure KnIA (P : Program) (w : World) (K : PySem.W.Frag) (mg : Str → Option Value) (base : Heap) (C : Addr) : Prop where
  ex : ∃ f fd, mg "InvalidArgument" = some (.ref C) ∧ AexC K C ∧ PySem.W.findIn K (.ref C) "__init__" = some (some (.ref f)) ∧ PySem.W.typeIn K (.ref f) = some (.type "function") ∧
    Binds K fd ["self", "part"] [] ∧ FnOk P w K mg base CX0 1 f fd ["self", "part"] (spInv C)
def tInv (C : Addr) (ta : TA) (W : WX) : TS := fun _ σ H => tMkO C (spInv C) [] ta σ H fun cls d H' => W cls d σ H'
section
variable {X : Cx} {C : Addr} {j : Nat} {a : Expr} {es : List Expr} {ta : TA} {p pos pos2 : Pos} {W : WX}
theorem ps_inv (hc : X.calm = true) (h : KnIA X.prog X.w X.K X.mg X.base C) (hr : Room j X.A) (tk : Takes X W) (ha : PA X [a] ta) (hj : 2 ≤ j := by decide) (hg : Gl X "InvalidArgument" := by rfl)
    (he : starEach (a :: []) X.env = (false, eval a X.env) :: starEach [] X.env := by rfl) (hpl : (backTo pos (starEach [] X.env)).any (·.1) = false := by rfl) :
    PS X (.Raise (some (.Call (.Name "InvalidArgument" p) [a] [] pos)) none pos2) (tInv C ta W) := by
  obtain ⟨f, fd, m, T, iC, tI, hb, F⟩ := h.ex
  exact ps_raise hc tk (pmk_aex T iC tI F (hr.mono hj) hb .nil pass0 hg m ha (by decide) he hpl)
end
section
variable {σ : L2.St} {H : Hp} {C : Addr} {W : WX} {D : Ends}
theorem w_inv {ta : TA} (h : ta σ H fun vs H1 => MkOK C (spInv C) [] vs H1 fun cls d H' => W cls d σ H') : tInv C ta W D σ H := h
theorem w_invI {v : V} {Q : XK} (q : ∀ d H', Same H H' → H d = none → H' d = some (.xd (parFs v)) → Q (.ref C) (some d) H') : MkOK C (spInv C) [] [v] H Q := by
  refine ⟨by show 1 ≤ 1000; decide, fun a ha => ⟨a, v, rfl, upd_same, fun d hd hda => ?_⟩⟩
  rw [upd_ne hda] at hd
  refine ⟨rfl, d, parFs v, ?_, upd_same, hd, q d _ (fun b o e => ?_) hd upd_same⟩
  · rw [upd_ne (Ne.symm hda), upd_same]
  · have ba : b ≠ a := ne_of_none e ha
    have bd : b ≠ d := ne_of_none e hd
    rw [upd_ne bd, del_ne ba, upd_ne bd, upd_ne ba, upd_ne ba]
    exact e
theorem par_part (v : V) : (parFs v).lookup ("part" : Str) = some v := by simp [parFs, List.lookup]
end
end Rd

set_option Elab.async false
set_option linter.all false
set_option maxRecDepth 100000
set_option autoImplicit false
set_option maxHeartbeats 4000000
namespace Nu
open PySem PySem.Spec PyProof.Rows L2 Rd
def top (i : Nat) : Stmt := PySem.Challenge.pw_walkmade_k93_whole_exact_sums.main.body.getD i (.Pass ⟨0, 0, 0, 0⟩)
abbrev s_Float_init : Stmt := inClass (top 12) 0
abbrev s_Float_is_finite : Stmt := inClass (top 12) 4
abbrev s_Float_ratio : Stmt := inClass (top 12) 5
abbrev s_is_plain : Stmt := top 13
abbrev s_reduced : Stmt := top 14
abbrev s_fits : Stmt := top 15
abbrev s_sign_of : Stmt := top 16
abbrev s_infinity : Stmt := top 18
abbrev s_nearest : Stmt := top 19
abbrev s_to_float : Stmt := top 22
/-! ### floats as data -/
inductive Fl where
  | fin (s t p : Int)
  | inf (s : Int)
  | nan
  deriving DecidableEq
def Fl.s : Fl → Int
  | .fin s _ _ => s
  | .inf s => s
  | .nan => 1
def Fl.t : Fl → V
  | .fin _ t _ => .int t
  | .inf _ => .str "inf"
  | .nan => .str "nan"
def Fl.p : Fl → Int
  | .fin _ _ p => p
  | _ => 0
def flds (s : Int) (t : V) (p : Int) : List (Str × V) := putF "power" (.int p) (putF "top" t (putF "sign" (.int s) []))
theorem ne_st : ¬ ("sign" : Str) = "top" := by decide +kernel
theorem ne_sp : ¬ ("sign" : Str) = "power" := by decide +kernel
theorem ne_tp : ¬ ("top" : Str) = "power" := by decide +kernel
theorem flds_s (s : Int) (t : V) (p : Int) : (flds s t p).lookup ("sign" : Str) = some (.int s) := by
  unfold flds
  rw [lookup_putF, if_neg ne_sp, lookup_putF, if_neg ne_st, lookup_putF, if_pos rfl]
theorem flds_t (s : Int) (t : V) (p : Int) : (flds s t p).lookup ("top" : Str) = some t := by
  unfold flds
  rw [lookup_putF, if_neg ne_tp, lookup_putF, if_pos rfl]
theorem flds_p (s : Int) (t : V) (p : Int) : (flds s t p).lookup ("power" : Str) = some (.int p) := by
  unfold flds
  rw [lookup_putF, if_pos rfl]
theorem flds_no (s : Int) (t : V) (p : Int) {m : Str} (h1 : ¬ m = "sign") (h2 : ¬ m = "top") (h3 : ¬ m = "power") : (flds s t p).lookup m = none := by
  unfold flds
  rw [lookup_putF, if_neg h3, lookup_putF, if_neg h2, lookup_putF, if_neg h1]
  rfl
/-- the float f stands at a -/
def FlAt (C : Addr) (H : Hp) (a : Addr) (f : Fl) : Prop := ∃ dx, H a = some (.ins C dx (flds f.s f.t f.p))
theorem FlAt.same {C : Addr} {H H' : Hp} {a : Addr} {f : Fl} (h : FlAt C H a f) (s : Same H H') : FlAt C H' a f := let ⟨dx, e⟩ := h; ⟨dx, s _ _ e⟩
/-- a float that stands is well made -/
def Fl.ok : Fl → Prop
  | .fin s t p => (s = 1 ∨ s = -1) ∧ 0 ≤ t ∧ t < 9007199254740992 ∧ (t = 0 → p = 0) ∧ (t ≠ 0 → -1074 ≤ p ∧ bits t + p ≤ 1024 ∧ t % 2 = 1)
  | .inf s => s = 1 ∨ s = -1
  | .nan => True
/-! ### what the text has -/
structure ClsTy (K : PySem.W.Frag) (C : Addr) : Prop where
  ha : PySem.W.findIn K (.ref C) "__class__" = some (some (.builtin "object.__class__"))
  hn : PySem.W.specialIn K (.builtin "object.__class__") "__get__" = some (some (.builtin "getset_descriptor.__get__"))
  htk : PySem.W.takesIn K (.builtin "object.__class__") = some true
  hm : PySem.W.mroIn K C (.type "object") = some true
structure All (K : PySem.W.Frag) (mg : Str → Option Value) (CF : Addr) : Prop where
  b_isinstance : mg "isinstance" = none
  b_int : mg "int" = none
  b_str : mg "str" = none
  b_bool : mg "bool" = none
  b_abs : mg "abs" = none
  b_max : mg "max" = none
  b_min : mg "min" = none
  b_divmod : mg "divmod" = none
  b_len : mg "len" = none
  b_range : mg "range" = none
  c_LEAST : ∃ t, mg "LEAST" = some (.int (-9223372036854775808) t)
  c_MOST : ∃ t, mg "MOST" = some (.int 9223372036854775807 t)
  c_ROOM : ∃ t, mg "ROOM" = some (.int 9007199254740992 t)
  c_LOWEST : ∃ t, mg "LOWEST" = some (.int (-1074) t)
  c_TOO_GREAT : ∃ t, mg "TOO_GREAT" = some (.int 1024 t)
  g_Float : mg "Float" = some (.ref CF)
  l_Float : Cls K CF
  y_Float : ClsTy K CF
  n_sign : NoAttr K CF "sign"
  n_top : NoAttr K CF "top"
  n_power : NoAttr K CF "power"
  i_Fint : PySem.W.kitOne K (.ref CF) (.type "int") = some false
  i_Fbool : PySem.W.kitOne K (.ref CF) (.type "bool") = some false
  i_Fstr : PySem.W.kitOne K (.ref CF) (.type "str") = some false
  i_intF : PySem.W.kitOne K (.type "int") (.ref CF) = some false
  i_boolF : PySem.W.kitOne K (.type "bool") (.ref CF) = some false
  i_strF : PySem.W.kitOne K (.type "str") (.ref CF) = some false
  i_nonF : PySem.W.kitOne K (.type "NoneType") (.ref CF) = some false
  x_init : TxC K mg "Float" CF "Float.__init__" s_Float_init ["self", "sign", "top", "power"]
  x_is_finite : TxM K CF "is_finite" "Float.is_finite" s_Float_is_finite ["self"]
  x_ratio : TxM K CF "ratio" "Float.ratio" s_Float_ratio ["self"]
  x_is_plain : Tx K mg "is_plain" "is_plain" s_is_plain ["number"]
  x_reduced : Tx K mg "reduced" "reduced" s_reduced ["top", "power"]
  x_fits : Tx K mg "fits" "fits" s_fits ["top", "power"]
  x_sign_of : Tx K mg "sign_of" "sign_of" s_sign_of ["is_negative"]
  x_infinity : Tx K mg "infinity" "infinity" s_infinity ["sign"]
  x_nearest : Tx K mg "nearest" "nearest" s_nearest ["sign", "top", "bottom"]
  x_to_float : Tx K mg "to_float" "to_float" s_to_float ["number"]
/-! ### what isinstance says of a value -/
def Says (K : PySem.W.Frag) (CF : Addr) (H : Hp) (x : V) (pl bo st fl : Bool) : Prop :=
  ∃ t, TyX K H x t ∧ PySem.W.kitOne K t (.type "int") = some (pl || bo) ∧ PySem.W.kitOne K t (.type "bool") = some bo ∧ PySem.W.kitOne K t (.type "str") = some st ∧ PySem.W.kitOne K t (.ref CF) = some fl
local macro_rules | `(tactic| walk_at "hp") => `(tactic| first | assumption | (refine same_get ?sm ?_; (case sm => assumption); walk_at "hp"))
local macro_rules | `(tactic| walk_at "rd") => `(tactic| first
  | with_reducible refine w_nx ?_
  | with_reducible refine w_rt ?_
  | with_reducible refine w_bk ?_
  | with_reducible refine w_ct ?_
  | with_reducible refine w_seq ?_
  | with_reducible refine w_next ?_
  | with_reducible refine w_ret ?_
  | with_reducible refine w_ifS ?_
  | with_reducible refine w_asg ?_
  | with_reducible refine w_name ?_
  | with_reducible refine w_par ?_
  | with_reducible refine w_parI ?_
  | with_reducible refine w_ii ?_
  | with_reducible refine w_i1 ?_
  | with_reducible refine w_drop ?_
  | with_reducible refine w_sFld ?_
  | ((with_reducible refine' w_var ?rdh ?_); (case rdh => exact rfl))
  | with_reducible refine w_c ?_
  | with_reducible refine w_op ?_
  | with_reducible refine w_un ?_
  | with_reducible refine w_I0 ?_
  | with_reducible refine w_U ?_
  | with_reducible refine w_bits ?_
  | with_reducible refine w_bitsI ?_
  | with_reducible refine w_tup ?_
  | with_reducible refine w_lst ?_
  | with_reducible refine w_nil ?_
  | with_reducible refine w_cons ?_
  | with_reducible refine w_fld ?_
  | with_reducible refine w_call ?_
  | with_reducible refine w_make ?_
  | with_reducible refine w_makeD ?_
  | with_reducible refine w_nn ?_
  | with_reducible refine w_subB ?_
  | with_reducible refine w_meth ?_
  | with_reducible refine w_cb ?_
  | with_reducible refine w_test ?_
  | with_reducible refine w_B ?_
  | with_reducible refine w_bl ?_
  | with_reducible refine w_andV ?_
  | with_reducible refine w_orV ?_
  | with_reducible refine w_notV ?_
  | with_reducible refine w_and ?_
  | with_reducible refine w_or ?_
  | with_reducible refine w_not ?_
  | with_reducible refine w_if ?_
  | with_reducible refine w_gnil ?_
  | with_reducible refine w_gcons ?_
  | with_reducible refine iT ?_
  | with_reducible refine iF ?_
  | with_reducible refine w_eqI ?_
  | with_reducible refine w_neI ?_
  | with_reducible refine w_eqS ?_
  | with_reducible refine w_eqIS ?_
  | with_reducible refine w_eqSI ?_)

section
variable {P : Program} {w : World} {K : PySem.W.Frag} {mg : Str → Option Value} {base : Heap} {CF : Addr}
theorem says_int (T : All K mg CF) {H : Hp} {i : Int} : Says K CF H (.int i) true false false false :=
  ⟨_, .base (.int i), kit_ty (by decide +kernel), kit_ty (by decide +kernel), kit_ty (by decide +kernel), T.i_intF⟩
theorem says_bl (T : All K mg CF) {H : Hp} {b : Bool} : Says K CF H (.bl b) false true false false :=
  ⟨_, .base (.bl b), kit_ty (by decide +kernel), kit_ty (by decide +kernel), kit_ty (by decide +kernel), T.i_boolF⟩
theorem says_str (T : All K mg CF) {H : Hp} {x : Str} : Says K CF H (.str x) false false true false :=
  ⟨_, .base (.str x), kit_ty (by decide +kernel), kit_ty (by decide +kernel), kit_ty (by decide +kernel), T.i_strF⟩
theorem says_non (T : All K mg CF) {H : Hp} : Says K CF H .non false false false false :=
  ⟨_, .base .non, kit_ty (by decide +kernel), kit_ty (by decide +kernel), kit_ty (by decide +kernel), T.i_nonF⟩
theorem kit_self (K : PySem.W.Frag) (C : Addr) : PySem.W.kitOne K (.ref C) (.ref C) = some true := by
  unfold PySem.W.kitOne
  rw [if_pos (by simp)]
theorem ty_ins {C : Addr} (c : Cls K C) (y : ClsTy K C) {H : Hp} {a dx : Addr} {fs : List (Str × V)} (h : H a = some (.ins C dx fs)) : TyX K H (.ref a) (.ref C) := .base (.ins h c y.ha y.hn y.htk y.hm)
theorem says_fl (T : All K mg CF) {H : Hp} {a dx : Addr} {fs : List (Str × V)} (h : H a = some (.ins CF dx fs)) : Says K CF H (.ref a) false false false true :=
  ⟨_, ty_ins T.l_Float T.y_Float h, T.i_Fint, T.i_Fbool, T.i_Fstr, kit_self K CF⟩
/-! ### is_plain -/
def spPlain (K : PySem.W.Frag) (CF : Addr) : Sp := fun vs H Q _ => ∃ x pl bo st fl, vs = [x] ∧ Says K CF H x pl bo st fl ∧ Q (.bl ((pl || bo) && !bo)) H
theorem sc_is_plain : FnScope ["number"] ["number"] (defScope s_is_plain) := ⟨rfl, rfl, rfl, by decide +kernel, rfl, by decide +kernel, by decide +kernel⟩
theorem ok_is_plain (T : All K mg CF) : Kn P w K mg base CX0 1 "is_plain" ["number"] (spPlain K CF) := by
  refine T.x_is_plain.kn fun f fd F => ?_
  refine F.ok sc_is_plain (fun vs H Q E h => ?_) (fun cdv A outer s H vs Q E hr h => ?_)
  · obtain ⟨x, pl, bo, st, fl, rfl, _⟩ := h
    rfl
  · obtain ⟨x, pl, bo, st, fl, rfl, ⟨t, ty, i1, i2, i3, i4⟩, q⟩ := h
    refine ⟨_, (pss_one (ps_ret (pe_and (pe_callB call_isi (by rfl) T.b_isinstance boot_isinstance (pa_cons (pv 0) (pa_cons (pe_bltn (by rfl) T.b_int boot_int (rty _)) pa_nil))) (pe_one (pe_not (pe_callB call_isi (by rfl) T.b_isinstance boot_isinstance (pa_cons (pv 0) (pa_cons (pe_bltn (by rfl) T.b_bool boot_bool (rty _)) pa_nil)))))))), ?_⟩
    repeat walk_at "rd"
    refine w_isi (.ty "int") ty i1 ?_
    repeat walk_at "rd"
    refine iB (fun e => ?_) (fun e => ?_)
    · repeat walk_at "rd"
      refine w_isi (.ty "bool") ty i2 ?_
      repeat walk_at "rd"
      rw [e] at q
      exact q
    · repeat walk_at "rd"
      rw [e] at q
      exact q
/-! ### reduced -/
def redV : V → Int → V × Int
  | .int t, p => (.int (red t p).1, (red t p).2)
  | v, _ => (v, 0)
def spReduced : Sp := fun vs H Q _ => ∃ tv p, vs = [tv, .int p] ∧ ((∃ t, tv = .int t ∧ 0 ≤ t) ∨ tv = .str "inf" ∨ tv = .str "nan") ∧
  ∀ q H', Same H H' → H' q = some (.tup [(redV tv p).1, .int (redV tv p).2]) → Q (.ref q) H'
theorem sc_reduced : FnScope ["top", "power", "less"] ["top", "power"] (defScope s_reduced) := ⟨rfl, rfl, rfl, by decide +kernel, rfl, by decide +kernel, by decide +kernel⟩
theorem ok_reduced (T : All K mg CF) : Kn P w K mg base CX0 1 "reduced" ["top", "power"] spReduced := by
  refine T.x_reduced.kn fun f fd F => ?_
  refine F.ok sc_reduced (fun vs H Q E h => ?_) (fun cdv A outer s H vs Q E hr h => ?_)
  · obtain ⟨tv, p, rfl, _⟩ := h
    rfl
  · obtain ⟨tv, p, rfl, c, q⟩ := h
    refine ⟨_, (pss_cons (ps_if (PW.pt (pw_or (pt_cmpR op_in_seq (pv 0) (pe_tup (pa_cons pe_str (pa_cons pe_str pa_nil))) rfl) (pw_or1 (pt_cmpR op_eq (pv 0) pe_int (nomark _))))) (pss_one (ps_ret (pe_tup (pa_cons (pv 0) (pa_cons pe_int pa_nil))))) pss_nil)
      (pss_cons (ps_set (i := 2) sc_reduced.nd rfl (Or.inl rfl) (pe_op op_sub (pe_bits (pe_op op_and (pv 0) (pe_op op_sub pe_int (pv 0)))) pe_int))
      (pss_one (ps_ret (pe_tup (pa_cons (pe_op op_shr (pv 0) (pv 2)) (pa_cons (pe_op op_add (pv 1) (pv 2)) pa_nil))))))), ?_⟩
    repeat walk_at "rd"
    refine w_tup2 fun a1 H1 s1 n1 h1 => ?_
    rcases c with ⟨t, rfl, ht⟩ | rfl | rfl
    · refine w_in h1 rfl rfl ?_
      repeat walk_at "rd"
      refine iF ?_
      repeat walk_at "rd"
      refine iD (fun z => ?_) (fun z => ?_)
      · repeat walk_at "rd"
        refine w_tup2 fun a2 H2 s2 n2 h2 => ?_
        repeat walk_at "rd"
        refine q a2 H2 (s1.trans s2) ?_
        subst z
        show H2 a2 = some (.tup [.int (red 0 p).1, .int (red 0 p).2])
        rw [red_zero]
        exact h2
      · repeat walk_at "rd"
        refine w_I (by obtain ⟨k, m, _, _, e⟩ := less_spec (t := t) (by omega); show 0 ≤ less t; omega) ?_
        repeat walk_at "rd"
        refine w_tup2 fun a2 H2 s2 n2 h2 => ?_
        repeat walk_at "rd"
        refine q a2 H2 (s1.trans s2) ?_
        show H2 a2 = some (.tup [.int (red t p).1, .int (red t p).2])
        unfold red
        rw [if_neg z]
        exact h2
    all_goals
      refine w_in h1 rfl rfl ?_
      repeat walk_at "rd"
      refine iT ?_
      repeat walk_at "rd"
      refine w_tup2 fun a2 H2 s2 n2 h2 => ?_
      repeat walk_at "rd"
      exact q a2 H2 (s1.trans s2) h2
/-! ### fits -/
def spFits : Sp := fun vs H Q _ => ∃ t p, vs = [.int t, .int p] ∧ Q (.bl (fitsB t p)) H
theorem sc_fits : FnScope ["top", "power"] ["top", "power"] (defScope s_fits) := ⟨rfl, rfl, rfl, by decide +kernel, rfl, by decide +kernel, by decide +kernel⟩
theorem ok_fits (T : All K mg CF) : Kn P w K mg base CX0 1 "fits" ["top", "power"] spFits := by
  refine T.x_fits.kn fun f fd F => ?_
  refine F.ok sc_fits (fun vs H Q E h => ?_) (fun cdv A outer s H vs Q E hr h => ?_)
  · obtain ⟨t, p, rfl, _⟩ := h
    rfl
  · obtain ⟨t, p, rfl, q⟩ := h
    refine ⟨_, (pss_one (ps_ret (pe_or (pe_and (pe_cmpR op_lt (pv 0) (pgE "ROOM" T.c_ROOM) (nomark _)) (pe_and (pe_cmpR op_ge (pv 1) (pgE "LOWEST" T.c_LOWEST) (nomark _)) (pe_one (pe_cmpR op_le (pe_op op_add (pe_bits (pv 0)) (pv 1)) (pgE "TOO_GREAT" T.c_TOO_GREAT) (nomark _))))) (pe_one (pe_cmpR op_eq (pv 0) pe_int (nomark _)))))), ?_⟩
    unfold fitsB at q
    repeat walk_at "rd"
    refine iD (fun c1 => ?_) (fun c1 => ?_)
    · rw [decide_eq_true c1, Bool.true_and] at q
      repeat walk_at "rd"
      refine iD (fun c2 => ?_) (fun c2 => ?_)
      · rw [decide_eq_true c2, Bool.true_and] at q
        repeat walk_at "rd"
        refine iD (fun c3 => ?_) (fun c3 => ?_)
        · rw [decide_eq_true (show bits t + p ≤ 1024 from c3), Bool.true_or] at q
          repeat walk_at "rd"
          exact q
        · rw [decide_eq_false (show ¬ bits t + p ≤ 1024 from c3), Bool.false_or] at q
          repeat walk_at "rd"
          exact q
      · rw [decide_eq_false c2, Bool.false_and, Bool.false_or] at q
        repeat walk_at "rd"
        exact q
    · rw [decide_eq_false c1, Bool.false_and, Bool.false_or] at q
      repeat walk_at "rd"
      exact q
/-! ### sign_of -/
def spSign : Sp := fun vs H Q _ => ∃ b, vs = [.bl b] ∧ Q (.int (if b = true then -1 else 1)) H
theorem sc_sign_of : FnScope ["is_negative"] ["is_negative"] (defScope s_sign_of) := ⟨rfl, rfl, rfl, by decide +kernel, rfl, by decide +kernel, by decide +kernel⟩
theorem ok_sign_of (T : All K mg CF) : Kn P w K mg base CX0 1 "sign_of" ["is_negative"] spSign := by
  refine T.x_sign_of.kn fun f fd F => ?_
  refine F.ok sc_sign_of (fun vs H Q E h => ?_) (fun cdv A outer s H vs Q E hr h => ?_)
  · obtain ⟨b, rfl, _⟩ := h
    rfl
  · obtain ⟨b, rfl, q⟩ := h
    refine ⟨_, (pss_one (ps_ret (pe_ifExp (pt_val (pv 0)) (pe_un un_neg pe_int) pe_int))), ?_⟩
    repeat walk_at "rd"
    cases b with
    | true =>
      refine iT ?_
      repeat walk_at "rd"
      exact q
    | false =>
      refine iF ?_
      repeat walk_at "rd"
      exact q
/-! ### Float(sign, top, power) -/
/-- the arguments that make the float f -/
def Arg (s : Int) (tv : V) (p : Int) (f : Fl) : Prop :=
  (∃ t, tv = .int t ∧ 0 ≤ t ∧ (s = 1 ∨ s = -1) ∧ fitsB (red t p).1 (red t p).2 = true ∧ f = .fin s (red t p).1 (red t p).2) ∨
  (tv = .str "inf" ∧ p = 0 ∧ (s = 1 ∨ s = -1) ∧ f = .inf s) ∨ (tv = .str "nan" ∧ p = 0 ∧ s = 1 ∧ f = .nan)
theorem Arg.redV {s p : Int} {tv : V} {f : Fl} (a : Arg s tv p f) : f.s = s ∧ f.t = (redV tv p).1 ∧ f.p = (redV tv p).2 := by
  rcases a with ⟨t, rfl, _, _, _, rfl⟩ | ⟨rfl, _, _, rfl⟩ | ⟨rfl, _, rfl, rfl⟩ <;> exact ⟨rfl, rfl, rfl⟩
theorem Arg.ok {s p : Int} {tv : V} {f : Fl} (a : Arg s tv p f) : f.ok := by
  rcases a with ⟨t, rfl, h0, hs, hf, rfl⟩ | ⟨rfl, _, hs, rfl⟩ | ⟨rfl, _, rfl, rfl⟩
  · by_cases z : t = 0
    · subst z
      rw [red_zero]
      exact ⟨hs, by decide, by decide, fun _ => rfl, fun h => absurd rfl h⟩
    · obtain ⟨k, m, hm, e, r⟩ := red_spec (t := t) (by omega) p
      rw [r] at hf ⊢
      unfold fitsB at hf
      have z2 : ¬ 2 * m + 1 = 0 := by omega
      rw [decide_eq_false z2, Bool.or_false, Bool.and_eq_true, Bool.and_eq_true, decide_eq_true_eq, decide_eq_true_eq, decide_eq_true_eq] at hf
      exact ⟨hs, by omega, hf.1, fun h => absurd h z2, fun _ => ⟨hf.2.1, hf.2.2, by omega⟩⟩
  · exact hs
  · exact trivial
def spInit (C : Addr) : Sp := fun vs H Q _ => ∃ x dx s tv p f, vs = [.ref x, .int s, tv, .int p] ∧ H x = some (.ins C dx []) ∧ Arg s tv p f ∧
  ∀ H', (∀ b o, b ≠ x → H b = some o → H' b = some o) → H' x = some (.ins C dx (flds f.s f.t f.p)) → Q .non H'
theorem u_plain_int (T : All K mg CF) {i : Int} {H : Hp} {Q : VK} {E : XK} (q : Q (.bl true) H) : spPlain K CF ([V.int i] ++ []) H Q E :=
  ⟨.int i, true, false, false, false, rfl, says_int T, q⟩
theorem u_reduced {tv : V} {p : Int} {H : Hp} {Q : VK} {E : XK} (c : (∃ t, tv = .int t ∧ 0 ≤ t) ∨ tv = .str "inf" ∨ tv = .str "nan") (q : ∀ a H', Same H H' → H' a = some (.tup [(redV tv p).1, .int (redV tv p).2]) → Q (.ref a) H') :
    spReduced ([tv, V.int p] ++ []) H Q E := ⟨tv, p, rfl, c, q⟩
theorem u_fits {t p : Int} {H : Hp} {Q : VK} {E : XK} (q : Q (.bl (fitsB t p)) H) : spFits ([V.int t, V.int p] ++ []) H Q E := ⟨t, p, rfl, q⟩
theorem w_gFld {to : TE} {f : Str} {v : V} {σ : L2.St} {H : Hp} {Q : L2.St → Hp → Prop} (h : to σ H fun x H1 => ∃ a C dx fs, x = .ref a ∧ H1 a = some (.ins C dx fs) ∧ Cls K C ∧ NoAttr K C f ∧ fs.length < 1000 ∧ Q σ (upd H1 a (.ins C dx (putF f v fs)))) : gFld K to f v σ H Q := h
theorem putF_s (s : Int) : putF "sign" (.int s) [] = [(("sign" : Str), V.int s)] := rfl
theorem len_put (f : Str) (v : V) (fs : List (Str × V)) {n : Nat} (h : fs.length < n) (hn : n < 1000) : (putF f v fs).length < 1000 := by
  have := length_putF f v fs
  omega
theorem lenf (s : Int) (t : V) (p : Int) : (flds s t p).length < 1000 := by
  unfold flds
  have a := length_putF "power" (.int p) (putF "top" t (putF "sign" (.int s) []))
  have b := length_putF "top" t (putF "sign" (.int s) [])
  have c := length_putF "sign" (.int s) []
  simp at c
  omega
theorem sc_Float_init : FnScope ["self", "sign", "top", "power"] ["self", "sign", "top", "power"] (defScope s_Float_init) := ⟨rfl, rfl, rfl, by decide +kernel, rfl, by decide +kernel, by decide +kernel⟩
theorem ok_init (T : All K mg CF) (k_is_plain : Kn P w K mg base CX0 1 "is_plain" ["number"] (spPlain K CF)) (k_reduced : Kn P w K mg base CX0 1 "reduced" ["top", "power"] spReduced) (k_fits : Kn P w K mg base CX0 1 "fits" ["top", "power"] spFits) :
    KnC P w K mg base CX0 2 "Float" CF ["self", "sign", "top", "power"] (spInit CF) := by
  refine T.x_init.kn fun f fd F => ?_
  refine F.ok sc_Float_init (fun vs H Q E h => ?_) (fun cdv A outer s H vs Q E hr h => ?_)
  · obtain ⟨x, dx, s, tv, p, f, rfl, _⟩ := h
    rfl
  · obtain ⟨x, dx, s, tv, p, f, rfl, hx, a, q⟩ := h
    refine ⟨_, (pss_cons (ps_if (PW.pt (pw_or (pt_not (pt_val (pk k_is_plain hr (pa_cons (pv 1) pa_nil)))) (pw_or1 (pt_cmpR op_notIn_seq (pv 1) (pe_tup (pa_cons pe_int (pa_cons (pe_un un_neg pe_int) pa_nil))) rfl)))) (pss_one ps_never) pss_nil)
      (C8.pss_cut (ps_if (PW.pt (pw_and (pt_val (pe_callB call_isi (by rfl) T.b_isinstance boot_isinstance (pa_cons (pv 2) (pa_cons (pe_bltn (by rfl) T.b_str boot_str (rty _)) pa_nil)))) (pw_and1 (pt_cmpR op_in_seq (pv 2) (pe_tup (pa_cons pe_str (pa_cons pe_str pa_nil))) rfl)))) (pss_cons (ps_if (PW.pt (pw_and (pt_cmpR op_eq (pv 2) pe_str (nomark _)) (pw_and1 (pt_cmpR op_eq (pv 1) (pe_un un_neg pe_int) (nomark _))))) (pss_one ps_never) pss_nil)
      (pss_one (ps_if (PW.pt (pw_or (pt_not (pt_val (pk k_is_plain hr (pa_cons (pv 3) pa_nil)))) (pw_or1 (pt_cmpR op_ne (pv 3) pe_int (nomark _))))) (pss_one ps_never) pss_nil))) (pss_one (ps_if (PW.pt (pw_or (pt_not (pt_val (pk k_is_plain hr (pa_cons (pv 2) pa_nil)))) (pw_or1 (pt_cmpR op_lt (pv 2) pe_int (nomark _))))) (pss_one ps_never) (pss_one (ps_if (pt_not (pt_val (pk k_is_plain hr (pa_cons (pv 3) pa_nil)))) (pss_one ps_never) pss_nil)))))
      (pss_cons (ps_fld (pv 0) (pv 1) rfl)
      (pss_cons (ps_asg (pk k_reduced hr (pa_cons (pv 2) (pa_cons (pv 3) pa_nil))) (pg_tup (by rfl) (pgs_cons (pg_fld (pv 0)) (pgs_cons (pg_fld (pv 0)) pgs_nil))))
      (pss_one (ps_if (PW.pt (pw_and (pt_cmpR op_notIn_seq (pe_fld (pv 0) rfl) (pe_tup (pa_cons pe_str (pa_cons pe_str pa_nil))) rfl) (pw_and1 (pt_not (pt_val (pk k_fits hr (pa_cons (pe_fld (pv 0) rfl) (pa_cons (pe_fld (pv 0) rfl) pa_nil)))))))) (pss_one ps_never) pss_nil)))))), ?_⟩
    have hs : s = 1 ∨ s = -1 := by rcases a with ⟨t, _, _, h, _, _⟩ | ⟨_, _, h, _⟩ | ⟨_, _, h, _⟩ <;> first | exact h | exact .inl h
    repeat walk_at "rd"
    refine u_plain_int T ?_
    repeat walk_at "rd"
    refine iF ?_
    repeat walk_at "rd"
    refine w_tup2 fun a1 H1 s1 n1 h1 => ?_
    refine w_nin h1 rfl rfl ?_
    repeat walk_at "rd"
    have e1 : (!inV (V.int s) [V.int 1, V.int (-1)]) = false := by rcases hs with rfl | rfl <;> rfl
    rw [e1]
    refine iF ?_
    repeat walk_at "rd"
    refine w_cut (Mid := fun σ' H' => σ' = start ["self", "sign", "top", "power"] [.ref x, .int s, tv, .int p] ∧ Same H H') ?_ ?_
    · repeat walk_at "rd"
      rcases a with ⟨t, rfl, h0, _, hf, rfl⟩ | ⟨rfl, rfl, _, rfl⟩ | ⟨rfl, rfl, rfl, rfl⟩
      · refine w_isi (.ty "str") (.base (.int t)) (kit_ty (b := "str") (r := false) (by decide +kernel)) ?_
        repeat walk_at "rd"
        refine u_plain_int T ?_
        repeat walk_at "rd"
        refine iF ?_
        repeat walk_at "rd"
        refine iD (fun z => by omega) (fun _ => ?_)
        repeat walk_at "rd"
        refine u_plain_int T ?_
        repeat walk_at "rd"
        refine iF ?_
        repeat walk_at "rd"
        exact ⟨rfl, s1⟩
      · refine w_isi (.ty "str") (.base (.str _)) (kit_ty (b := "str") (r := true) (by decide +kernel)) ?_
        repeat walk_at "rd"
        refine w_tup2 fun a2 H2 s2 n2 h2 => ?_
        refine w_in h2 rfl rfl ?_
        repeat walk_at "rd"
        refine iT ?_
        repeat walk_at "rd"
        refine iD (fun z => absurd z (by decide +kernel)) (fun _ => ?_)
        repeat walk_at "rd"
        refine u_plain_int T ?_
        repeat walk_at "rd"
        refine iF ?_
        repeat walk_at "rd"
        refine iN (fun z => absurd rfl z) (fun _ => ?_)
        repeat walk_at "rd"
        exact ⟨rfl, s1.trans s2⟩
      · refine w_isi (.ty "str") (.base (.str _)) (kit_ty (b := "str") (r := true) (by decide +kernel)) ?_
        repeat walk_at "rd"
        refine w_tup2 fun a2 H2 s2 n2 h2 => ?_
        refine w_in h2 rfl rfl ?_
        repeat walk_at "rd"
        refine iT ?_
        repeat walk_at "rd"
        refine iD (fun _ => ?_) (fun z => absurd rfl z)
        repeat walk_at "rd"
        refine iD (fun z => absurd z (by decide)) (fun _ => ?_)
        repeat walk_at "rd"
        refine u_plain_int T ?_
        repeat walk_at "rd"
        refine iF ?_
        repeat walk_at "rd"
        refine iN (fun z => absurd rfl z) (fun _ => ?_)
        repeat walk_at "rd"
        exact ⟨rfl, s1.trans s2⟩
    · rintro σ' H3 ⟨rfl, s3⟩
      obtain ⟨e1, e2, e3⟩ := a.redV
      have hx3 := s3 _ _ hx
      repeat walk_at "rd"
      refine w_sfI hx3 T.l_Float T.n_sign (by decide) ?_
      repeat walk_at "rd"
      refine u_reduced (by rcases a with ⟨t, rfl, h0, _⟩ | ⟨rfl, _⟩ | ⟨rfl, _⟩ <;> first | exact .inl ⟨_, rfl, h0⟩ | exact .inr (.inl rfl) | exact .inr (.inr rfl)) fun a4 H4 s4 h4 => ?_
      have hx4 : H4 x = some (.ins CF dx (putF "sign" (.int s) [])) := s4 _ _ upd_same
      refine w_gtup h4 rfl ?_
      repeat walk_at "rd"
      refine w_gFld ?_
      repeat walk_at "rd"
      refine w_sfI hx4 T.l_Float T.n_top (by show 1 < 1000; decide) ?_
      repeat walk_at "rd"
      refine w_gFld ?_
      repeat walk_at "rd"
      refine w_sfI upd_same T.l_Float T.n_power (len_put _ _ _ (n := 2) (by show 1 < 2; decide) (by decide)) ?_
      repeat walk_at "rd"
      rw [upd_upd]
      have ef : (putF "power" (.int (redV tv p).2) (putF "top" (redV tv p).1 (putF "sign" (.int s) []))) = flds f.s f.t f.p := by rw [e1, e2, e3]; rfl
      rw [ef]
      generalize eH5 : upd H4 x (.ins CF dx (flds f.s f.t f.p)) = H5
      have hx5 : H5 x = some (.ins CF dx (flds f.s f.t f.p)) := by rw [← eH5]; exact upd_same
      have k5 : ∀ b o, b ≠ x → H b = some o → H5 b = some o := fun b o hb e => by
        rw [← eH5, upd_ne hb]
        exact s4 _ _ (by rw [upd_ne hb]; exact s3 _ _ e)
      refine w_fldI hx5 T.l_Float T.n_top (flds_t _ _ _) ?_
      repeat walk_at "rd"
      refine w_tup2 fun a6 H6 s6 n6 h6 => ?_
      have hx6 := s6 _ _ hx5
      have k6 : ∀ b o, b ≠ x → H b = some o → H6 b = some o := fun b o hb e => s6 _ _ (k5 b o hb e)
      rcases a with ⟨t, rfl, h0, _, hf, rfl⟩ | ⟨rfl, rfl, _, rfl⟩ | ⟨rfl, rfl, rfl, rfl⟩
      · refine w_nin h6 rfl rfl ?_
        repeat walk_at "rd"
        refine iT ?_
        repeat walk_at "rd"
        refine w_fldI hx6 T.l_Float T.n_top (flds_t _ _ _) ?_
        repeat walk_at "rd"
        refine w_fldI hx6 T.l_Float T.n_power (flds_p _ _ _) ?_
        repeat walk_at "rd"
        refine u_fits ?_
        repeat walk_at "rd"
        show if (!fitsB (red t p).1 (red t p).2) = true then _ else _
        rw [hf]
        refine iF ?_
        repeat walk_at "rd"
        exact q H6 k6 hx6
      all_goals
        refine w_nin h6 rfl rfl ?_
        repeat walk_at "rd"
        refine iF ?_
        refine iF ?_
        repeat walk_at "rd"
        exact q H6 k6 hx6
/-- Float(s, tv, p) makes f -/
theorem u_Float {s p : Int} {tv : V} {f : Fl} {H : Hp} {Q : VK} {E : XK} (a : Arg s tv p f) (q : ∀ x H', Same H H' → H x = none → FlAt CF H' x f → Q (.ref x) H') : MakeK CF (spInit CF) [.int s, tv, .int p] H Q E := by
  intro x dx hx hdx ne
  refine ⟨x, dx, s, tv, p, f, rfl, upd_same, a, fun H' k hx' => ⟨rfl, q x H' (fun b o e => k b o (ne_of_none e hx) ?_) hx ⟨dx, hx'⟩⟩⟩
  rw [upd_ne (ne_of_none e hx), upd_ne (ne_of_none e hdx)]
  exact e
end
end Nu

set_option Elab.async false
set_option linter.all false
set_option maxRecDepth 100000
set_option autoImplicit false
set_option maxHeartbeats 4000000
namespace Nu
open PySem PySem.Spec PyProof.Rows L2 Rd
local macro_rules | `(tactic| walk_at "hp") => `(tactic| first | assumption | (refine same_get ?sm ?_; (case sm => assumption); walk_at "hp"))
local macro_rules | `(tactic| walk_at "rd") => `(tactic| first
  | with_reducible refine w_nx ?_
  | with_reducible refine w_rt ?_
  | with_reducible refine w_bk ?_
  | with_reducible refine w_ct ?_
  | with_reducible refine w_seq ?_
  | with_reducible refine w_next ?_
  | with_reducible refine w_ret ?_
  | with_reducible refine w_ifS ?_
  | with_reducible refine w_asg ?_
  | with_reducible refine w_name ?_
  | with_reducible refine w_par ?_
  | with_reducible refine w_parI ?_
  | with_reducible refine w_ii ?_
  | with_reducible refine w_i1 ?_
  | with_reducible refine w_drop ?_
  | with_reducible refine w_sFld ?_
  | ((with_reducible refine' w_var ?rdh ?_); (case rdh => exact rfl))
  | with_reducible refine w_c ?_
  | with_reducible refine w_op ?_
  | with_reducible refine w_un ?_
  | with_reducible refine w_I0 ?_
  | with_reducible refine w_U ?_
  | with_reducible refine w_bits ?_
  | with_reducible refine w_bitsI ?_
  | with_reducible refine w_tup ?_
  | with_reducible refine w_lst ?_
  | with_reducible refine w_nil ?_
  | with_reducible refine w_cons ?_
  | with_reducible refine w_fld ?_
  | with_reducible refine w_call ?_
  | with_reducible refine w_make ?_
  | with_reducible refine w_makeD ?_
  | with_reducible refine w_nn ?_
  | with_reducible refine w_subB ?_
  | with_reducible refine w_meth ?_
  | with_reducible refine w_cb ?_
  | with_reducible refine w_test ?_
  | with_reducible refine w_B ?_
  | with_reducible refine w_bl ?_
  | with_reducible refine w_andV ?_
  | with_reducible refine w_orV ?_
  | with_reducible refine w_notV ?_
  | with_reducible refine w_and ?_
  | with_reducible refine w_or ?_
  | with_reducible refine w_not ?_
  | with_reducible refine w_if ?_
  | with_reducible refine w_gnil ?_
  | with_reducible refine w_gcons ?_
  | with_reducible refine iT ?_
  | with_reducible refine iF ?_
  | with_reducible refine w_eqI ?_
  | with_reducible refine w_neI ?_
  | with_reducible refine w_eqS ?_
  | with_reducible refine w_eqIS ?_
  | with_reducible refine w_eqSI ?_)

section
variable {P : Program} {w : World} {K : PySem.W.Frag} {mg : Str → Option Value} {base : Heap} {CF : Addr}
/-- a new float -/
def NewF (CF : Addr) (f : Fl) (H : Hp) (Q : VK) : Prop := ∀ x H', Same H H' → H x = none → FlAt CF H' x f → Q (.ref x) H'
/-! ### infinity -/
def spInf (CF : Addr) : Sp := fun vs H Q _ => ∃ s, vs = [.int s] ∧ (s = 1 ∨ s = -1) ∧ NewF CF (.inf s) H Q
theorem sc_infinity : FnScope ["sign"] ["sign"] (defScope s_infinity) := ⟨rfl, rfl, rfl, by decide +kernel, rfl, by decide +kernel, by decide +kernel⟩
theorem ok_infinity (T : All K mg CF) (k_Float_init : KnC P w K mg base CX0 2 "Float" CF ["self", "sign", "top", "power"] (spInit CF)) : Kn P w K mg base CX0 4 "infinity" ["sign"] (spInf CF) := by
  refine T.x_infinity.kn fun f fd F => ?_
  refine F.ok sc_infinity (fun vs H Q E h => ?_) (fun cdv A outer s H vs Q E hr h => ?_)
  · obtain ⟨s, rfl, _⟩ := h
    rfl
  · obtain ⟨s, rfl, hs, q⟩ := h
    refine ⟨_, (pss_one (ps_ret (pkC k_Float_init hr (pa_cons (pv 0) (pa_cons pe_str (pa_cons pe_int pa_nil)))))), ?_⟩
    repeat walk_at "rd"
    refine u_Float (.inr (.inl ⟨rfl, rfl, hs, rfl⟩)) fun x H' s1 n1 h1 => ?_
    exact q x H' s1 n1 h1
/-! ### nearest -/
def nearM (s t b : Int) : Fl := if t = 0 then .fin s 0 0 else if 1024 < bits (wh t b) + p2 t b then .inf s else .fin s (red (wh t b) (p2 t b)).1 (red (wh t b) (p2 t b)).2
def spNear (CF : Addr) : Sp := fun vs H Q _ => ∃ s t b, vs = [.int s, .int t, .int b] ∧ (s = 1 ∨ s = -1) ∧ 0 ≤ t ∧ 0 < b ∧ bits t ≤ 3300 ∧ bits b ≤ 3300 ∧ NewF CF (nearM s t b) H Q
theorem cshl {i j : Int} (h : bits i ≤ 10000) (h0 : 0 ≤ j) (h1 : j ≤ 10000) : CShl i j := by
  refine ⟨h0, ?_⟩
  have e : (2 : Int) ^ 27 = 134217728 := by decide
  rw [e]
  have : bits i = (Builtin.Int.intBits i : Nat) := rfl
  omega
theorem cdivw {i j : Int} (h : 0 < j) (hb : bits j ≤ 8000) : CDivW i j := by
  have := (bits_le (n := j) (k := 8000)).1 (by omega)
  exact wide_div h this (by decide) (by decide)
theorem cdivp {i j : Int} (h : 0 < j) (hb : bits i ≤ 4000) : CDivP i j := by
  refine divp_ok h ?_
  have : bits i = (Builtin.Int.intBits i : Nat) := rfl
  omega
theorem cmulx {i j : Int} (h : bits i ≤ 100000) (hb : bits j ≤ 100000) : CMulX i j := by
  unfold CMulX
  have : bits i = (Builtin.Int.intBits i : Nat) := rfl
  have : bits j = (Builtin.Int.intBits j : Nat) := rfl
  omega
theorem sc_nearest : FnScope ["sign", "top", "bottom", "power", "whole", "rest"] ["sign", "top", "bottom"] (defScope s_nearest) := ⟨rfl, rfl, rfl, by decide +kernel, rfl, by decide +kernel, by decide +kernel⟩
theorem ok_nearest (T : All K mg CF) (k_Float_init : KnC P w K mg base CX0 2 "Float" CF ["self", "sign", "top", "power"] (spInit CF)) (k_infinity : Kn P w K mg base CX0 4 "infinity" ["sign"] (spInf CF)) :
    Kn P w K mg base CX0 5 "nearest" ["sign", "top", "bottom"] (spNear CF) := by
  refine T.x_nearest.kn fun f fd F => ?_
  refine F.ok sc_nearest (fun vs H Q E h => ?_) (fun cdv A outer s H vs Q E hr h => ?_)
  · obtain ⟨s, t, b, rfl, _⟩ := h
    rfl
  · obtain ⟨s, t, b, rfl, hs, ht, hb, bt, bb, q⟩ := h
    refine ⟨_, (pss_cons (ps_if (pt_cmpR op_eq (pv 1) pe_int (nomark _)) (pss_one (ps_ret (pkC k_Float_init hr (pa_cons (pv 0) (pa_cons pe_int (pa_cons pe_int pa_nil)))))) pss_nil)
      (pss_cons (ps_set (i := 3) sc_nearest.nd rfl (Or.inl rfl) (pe_callB (call_max2 rfl) (by rfl) T.b_max boot_max (pa_cons (pe_op op_sub (pe_op op_sub (pe_bits (pv 1)) (pe_bits (pv 2))) pe_int) (pa_cons (pgE "LOWEST" T.c_LOWEST) pa_nil))))
      (C8.pss_cut (ps_if (pt_cmpR op_lt (pv 3) pe_int (nomark _)) (pss_one (ps_set (i := 1) sc_nearest.nd rfl (Or.inl rfl) (pe_op op_shlW (pv 1) (pe_op op_sub pe_int (pv 3))))) (pss_one (ps_set (i := 2) sc_nearest.nd rfl (Or.inl rfl) (pe_op op_shlW (pv 2) (pv 3)))))
      (C8.pss_cut (ps_if (pt_cmpR op_ge (pe_op op_fdivW (pv 1) (pv 2)) (pgE "ROOM" T.c_ROOM) (nomark _)) (pss_cons (ps_set (i := 2) sc_nearest.nd rfl (Or.inl rfl) (pe_op op_shlW (pv 2) pe_int))
      (pss_one (ps_set (i := 3) sc_nearest.nd rfl (Or.inl rfl) (pe_op op_add (pv 3) pe_int)))) pss_nil)
      (pss_cons (ps_asg (pe_callB call_divmodW (by rfl) T.b_divmod boot_divmod (pa_cons (pv 1) (pa_cons (pv 2) pa_nil))) (pg_tup (by rfl) (pgs_cons (pg_name (i := 4) sc_nearest.nd rfl (Or.inl rfl)) (pgs_cons (pg_name (i := 5) sc_nearest.nd rfl (Or.inl rfl)) pgs_nil))))
      (C8.pss_cut (ps_if (PW.pt (pw_or (pt_cmpR op_gt (pe_op op_mulX pe_int (pv 5)) (pv 2) (nomark _)) (pw_or1 (PW.pt (pw_and (pt_cmpR op_eq (pe_op op_mulX pe_int (pv 5)) (pv 2) (nomark _)) (pw_and1 (pt_cmpR op_eq (pe_op op_and (pv 4) pe_int) pe_int (nomark _)))))))) (pss_one (ps_set (i := 4) sc_nearest.nd rfl (Or.inl rfl) (pe_op op_add (pv 4) pe_int))) pss_nil)
      (pss_cons (ps_if (pt_cmpR op_gt (pe_op op_add (pe_bits (pv 4)) (pv 3)) (pgE "TOO_GREAT" T.c_TOO_GREAT) (nomark _)) (pss_one (ps_ret (pk k_infinity hr (pa_cons (pv 0) pa_nil)))) pss_nil)
      (pss_one (ps_ret (pkC k_Float_init hr (pa_cons (pv 0) (pa_cons (pv 4) (pa_cons (pv 3) pa_nil))))))))))))), ?_⟩
    repeat walk_at "rd"
    refine iD (fun z => ?_) (fun z => ?_)
    · repeat walk_at "rd"
      subst z
      refine u_Float (.inl ⟨0, rfl, by decide, hs, by rw [red_zero]; decide, rfl⟩) fun x H' s1 n1 h1 => ?_
      refine q x H' s1 n1 ?_
      unfold nearM
      rw [if_pos rfl]
      rw [red_zero] at h1
      exact h1
    · repeat walk_at "rd"
      rw [show (if (-1074 : Int) > ((Builtin.Int.intBits t : Nat) : Int) - ((Builtin.Int.intBits b : Nat) : Int) - 53 then (-1074 : Int) else ((Builtin.Int.intBits t : Nat) : Int) - ((Builtin.Int.intBits b : Nat) : Int) - 53) = pw t b from rfl]
      have g1 := pw_ge (t := t) (b := b)
      have g2 := pw_le (t := t) (b := b) bt
      repeat walk_at "rd"
      refine w_cut (Mid := fun σ' H' => σ' = [some (.int s), some (.int (t1 t b)), some (.int (b1 t b)), some (.int (pw t b)), none, none] ∧ H' = H) ?_ ?_
      · repeat walk_at "rd"
        refine iD (fun c => ?_) (fun c => ?_)
        · repeat walk_at "rd"
          refine w_I (cshl (by omega) (by omega) (by omega)) ?_
          repeat walk_at "rd"
          refine ⟨?_, rfl⟩
          unfold t1 b1
          rw [if_pos c, if_pos c]
          rfl
        · repeat walk_at "rd"
          refine w_I (cshl (by omega) (by omega) (by omega)) ?_
          repeat walk_at "rd"
          refine ⟨?_, rfl⟩
          unfold t1 b1
          rw [if_neg c, if_neg c]
          rfl
      rintro σ' H' ⟨rfl, rfl⟩
      have h1 := b1_pos (t := t) hb
      have h2 := b2_pos (t := t) hb
      have h3 := b1_bits hb bt bb
      have h4 := b2_bits hb bt bb
      have h5 := t1_bits2 (b := b) ht bt bb
      refine w_cut (Mid := fun σ' H'' => σ' = [some (.int s), some (.int (t1 t b)), some (.int (b2 t b)), some (.int (p2 t b)), none, none] ∧ H'' = H') ?_ ?_
      · repeat walk_at "rd"
        refine w_I (cdivw h1 (by omega)) ?_
        repeat walk_at "rd"
        refine iD (fun c => ?_) (fun c => ?_)
        · repeat walk_at "rd"
          refine w_I (cshl (by omega) (by omega) (by omega)) ?_
          repeat walk_at "rd"
          refine ⟨?_, rfl⟩
          unfold b2 p2
          rw [if_pos c, if_pos c]
          rfl
        · repeat walk_at "rd"
          refine ⟨?_, rfl⟩
          unfold b2 p2
          rw [if_neg c, if_neg c]
      rintro σ' H'' ⟨rfl, rfl⟩
      repeat walk_at "rd"
      refine ⟨cdivp h2 (by omega), fun a1 n1 => ?_⟩
      have s1 := same_upd (o := .tup [.int (t1 t b / b2 t b), .int (t1 t b % b2 t b)]) n1
      have e1 := upd_same (H := H'') (a := a1) (o := .tup [.int (t1 t b / b2 t b), .int (t1 t b % b2 t b)])
      generalize upd H'' a1 (.tup [.int (t1 t b / b2 t b), .int (t1 t b % b2 t b)]) = H1 at s1 e1 ⊢
      refine w_gtup e1 rfl ?_
      repeat walk_at "rd"
      rw [show t1 t b / b2 t b = wq t b from rfl, show t1 t b % b2 t b = wr t b from rfl]
      have r0 := wr_nn (t := t) hb
      have r1 := wr_lt (t := t) hb
      have rb : bits (wr t b) ≤ 6601 := Int.le_trans (bits_mono r0 (Int.le_of_lt r1)) h4
      refine w_cut (Mid := fun σ' H'' => σ' = [some (.int s), some (.int (t1 t b)), some (.int (b2 t b)), some (.int (p2 t b)), some (.int (wh t b)), some (.int (wr t b))] ∧ H'' = H1) ?_ ?_
      · have up : goesUp t b → wh t b = wq t b + 1 := fun c => if_pos c
        have dn : ¬ goesUp t b → wh t b = wq t b := fun c => if_neg c
        repeat walk_at "rd"
        refine w_I (cmulx (by decide) (by omega)) ?_
        repeat walk_at "rd"
        refine iD (fun c => ?_) (fun c => ?_)
        · refine iT ?_
          repeat walk_at "rd"
          refine ⟨?_, rfl⟩
          rw [up (.inl c)]
          rfl
        · repeat walk_at "rd"
          refine w_I (cmulx (by decide) (by omega)) ?_
          repeat walk_at "rd"
          refine iD (fun c2 => ?_) (fun c2 => ?_)
          · repeat walk_at "rd"
            refine iD (fun c3 => ?_) (fun c3 => ?_)
            · repeat walk_at "rd"
              refine ⟨?_, rfl⟩
              rw [up (.inr ⟨c2, c3⟩)]
              rfl
            · repeat walk_at "rd"
              refine ⟨?_, rfl⟩
              rw [dn (fun h => h.elim c fun h => c3 h.2)]
              rfl
          · repeat walk_at "rd"
            refine ⟨?_, rfl⟩
            rw [dn (fun h => h.elim c fun h => c2 h.1)]
            rfl
      rintro σ' H3 ⟨rfl, rfl⟩
      repeat walk_at "rd"
      refine iD (fun c => ?_) (fun c => ?_)
      · repeat walk_at "rd"
        refine ⟨s, rfl, hs, fun x H' s2 n2 h2 => ?_⟩
        refine q x H' (s1.trans s2) (s1.free n2) ?_
        unfold nearM
        rw [if_neg z, if_pos c]
        exact h2
      · repeat walk_at "rd"
        refine u_Float (.inl ⟨wh t b, rfl, wh_nn ht hb, hs, wh_fits ht hb (Int.not_lt.mp c), rfl⟩) fun x H' s2 n2 h2 => ?_
        refine q x H' (s1.trans s2) (s1.free n2) ?_
        unfold nearM
        rw [if_neg z, if_neg c]
        exact h2
end
end Nu

set_option Elab.async false
set_option linter.all false
set_option maxRecDepth 100000
set_option autoImplicit false
set_option maxHeartbeats 4000000
namespace Nu
open PySem PySem.Spec PyProof.Rows L2 Rd
local macro_rules | `(tactic| walk_at "hp") => `(tactic| first | assumption | (refine same_get ?sm ?_; (case sm => assumption); walk_at "hp"))
local macro_rules | `(tactic| walk_at "rd") => `(tactic| first
  | with_reducible refine w_nx ?_
  | with_reducible refine w_rt ?_
  | with_reducible refine w_bk ?_
  | with_reducible refine w_ct ?_
  | with_reducible refine w_seq ?_
  | with_reducible refine w_next ?_
  | with_reducible refine w_ret ?_
  | with_reducible refine w_ifS ?_
  | with_reducible refine w_asg ?_
  | with_reducible refine w_name ?_
  | with_reducible refine w_par ?_
  | with_reducible refine w_parI ?_
  | with_reducible refine w_ii ?_
  | with_reducible refine w_i1 ?_
  | with_reducible refine w_drop ?_
  | with_reducible refine w_sFld ?_
  | ((with_reducible refine' w_var ?rdh ?_); (case rdh => exact rfl))
  | with_reducible refine w_c ?_
  | with_reducible refine w_op ?_
  | with_reducible refine w_un ?_
  | with_reducible refine w_I0 ?_
  | with_reducible refine w_U ?_
  | with_reducible refine w_bits ?_
  | with_reducible refine w_bitsI ?_
  | with_reducible refine w_tup ?_
  | with_reducible refine w_lst ?_
  | with_reducible refine w_nil ?_
  | with_reducible refine w_cons ?_
  | with_reducible refine w_fld ?_
  | with_reducible refine w_call ?_
  | with_reducible refine w_make ?_
  | with_reducible refine w_makeD ?_
  | with_reducible refine w_nn ?_
  | with_reducible refine w_subB ?_
  | with_reducible refine w_meth ?_
  | with_reducible refine w_cb ?_
  | with_reducible refine w_test ?_
  | with_reducible refine w_B ?_
  | with_reducible refine w_bl ?_
  | with_reducible refine w_andV ?_
  | with_reducible refine w_orV ?_
  | with_reducible refine w_notV ?_
  | with_reducible refine w_and ?_
  | with_reducible refine w_or ?_
  | with_reducible refine w_not ?_
  | with_reducible refine w_if ?_
  | with_reducible refine w_gnil ?_
  | with_reducible refine w_gcons ?_
  | with_reducible refine iT ?_
  | with_reducible refine iF ?_
  | with_reducible refine w_eqI ?_
  | with_reducible refine w_neI ?_
  | with_reducible refine w_eqS ?_
  | with_reducible refine w_eqIS ?_
  | with_reducible refine w_eqSI ?_)

section
variable {P : Program} {w : World} {K : PySem.W.Frag} {mg : Str → Option Value} {base : Heap} {CF : Addr}
/-! ### is_finite, ratio -/
def Fl.isFin : Fl → Bool
  | .fin _ _ _ => true
  | _ => false
theorem Fl.ty (f : Fl) (K : PySem.W.Frag) (H : Hp) : ∃ t, TyX K H f.t t ∧ PySem.W.kitOne K t (.type "int") = some f.isFin := by
  cases f with
  | fin s t p => exact ⟨_, .base (.int t), kit_ty (r := true) (by decide +kernel)⟩
  | inf s => exact ⟨_, .base (.str _), kit_ty (r := false) (by decide +kernel)⟩
  | nan => exact ⟨_, .base (.str _), kit_ty (r := false) (by decide +kernel)⟩
def spFinite (CF : Addr) : Sp := fun vs H Q _ => ∃ a f, vs = [.ref a] ∧ FlAt CF H a f ∧ Q (.bl f.isFin) H
theorem sc_Float_is_finite : FnScope ["self"] ["self"] (defScope s_Float_is_finite) := ⟨rfl, rfl, rfl, by decide +kernel, rfl, by decide +kernel, by decide +kernel⟩
theorem ok_is_finite (T : All K mg CF) : KnM P w K mg base CX0 1 CF "is_finite" ["self"] (spFinite CF) := by
  refine T.x_is_finite.kn fun f fd F => ?_
  refine F.ok sc_Float_is_finite (fun vs H Q E h => ?_) (fun cdv A outer s H vs Q E hr h => ?_)
  · obtain ⟨a, f, rfl, _⟩ := h
    rfl
  · obtain ⟨a, f, rfl, ⟨dx, h1⟩, q⟩ := h
    refine ⟨_, (pss_one (ps_ret (pe_callB call_isi (by rfl) T.b_isinstance boot_isinstance (pa_cons (pe_fld (pv 0) rfl) (pa_cons (pe_bltn (by rfl) T.b_int boot_int (rty _)) pa_nil))))), ?_⟩
    repeat walk_at "rd"
    refine w_fldI h1 T.l_Float T.n_top (flds_t _ _ _) ?_
    repeat walk_at "rd"
    obtain ⟨t, ty, k⟩ := f.ty K H
    refine w_isi (.ty "int") ty k ?_
    repeat walk_at "rd"
    exact q
/-- top and bottom of a finite float -/
def ratT (s t p : Int) : Int := if p < 0 then s * t else s * (t * 2 ^ p.toNat)
def ratB (p : Int) : Int := if p < 0 then 2 ^ (0 - p).toNat else 1
def spRatio (CF : Addr) : Sp := fun vs H Q _ => ∃ a s t p, vs = [.ref a] ∧ FlAt CF H a (.fin s t p) ∧ (Fl.fin s t p).ok ∧
  ∀ q H', Same H H' → H q = none → H' q = some (.tup [.int (ratT s t p), .int (ratB p)]) → Q (.ref q) H'
theorem ok_bounds {s t p : Int} (h : (Fl.fin s t p).ok) : bits s ≤ 1 ∧ bits t ≤ 53 ∧ -1074 ≤ p ∧ p ≤ 1023 ∧ 0 ≤ t ∧ bits t + p ≤ 1024 := by
  obtain ⟨hs, h0, h1, h2, h3⟩ := h
  have b1 : bits s ≤ 1 := by rcases hs with rfl | rfl <;> decide
  have b2 : bits t ≤ ((53 : Nat) : Int) := (bits_lt_pow h0).2 (by rw [← pow53]; exact h1)
  by_cases z : t = 0
  · have := h2 z
    subst z
    rw [bits_zero]
    omega
  · obtain ⟨h4, h5, h6⟩ := h3 z
    have : 0 < Builtin.Int.intBits t := bits_pos (by omega)
    have e : bits t = (Builtin.Int.intBits t : Nat) := rfl
    omega
theorem sc_Float_ratio : FnScope ["self"] ["self"] (defScope s_Float_ratio) := ⟨rfl, rfl, rfl, by decide +kernel, rfl, by decide +kernel, by decide +kernel⟩
theorem ok_ratio (T : All K mg CF) : KnM P w K mg base CX0 1 CF "ratio" ["self"] (spRatio CF) := by
  refine T.x_ratio.kn fun f fd F => ?_
  refine F.ok sc_Float_ratio (fun vs H Q E h => ?_) (fun cdv A outer s H vs Q E hr h => ?_)
  · obtain ⟨a, s, t, p, rfl, _⟩ := h
    rfl
  · obtain ⟨a, s, t, p, rfl, ⟨dx, h1⟩, ok, q⟩ := h
    obtain ⟨bs, bt, p1, p2, t0, tp⟩ := ok_bounds ok
    refine ⟨_, (pss_cons (ps_if (pt_cmpR op_lt (pe_fld (pv 0) rfl) pe_int (nomark _)) (pss_one (ps_ret (pe_tup (pa_cons (pe_op op_mulX (pe_fld (pv 0) rfl) (pe_fld (pv 0) rfl)) (pa_cons (pe_op op_shlW pe_int (pe_op op_sub pe_int (pe_fld (pv 0) rfl))) pa_nil))))) pss_nil)
      (pss_one (ps_ret (pe_tup (pa_cons (pe_op op_mulX (pe_fld (pv 0) rfl) (pe_op op_shlW (pe_fld (pv 0) rfl) (pe_fld (pv 0) rfl))) (pa_cons pe_int pa_nil)))))), ?_⟩
    repeat walk_at "rd"
    refine w_fldI h1 T.l_Float T.n_power (flds_p _ _ _) ?_
    repeat walk_at "rd"
    refine iD (fun c => ?_) (fun c => ?_)
    · have c' : p < 0 := c
      repeat walk_at "rd"
      refine w_fldI h1 T.l_Float T.n_sign (flds_s _ _ _) ?_
      repeat walk_at "rd"
      refine w_fldI h1 T.l_Float T.n_top (flds_t _ _ _) ?_
      refine w_I (cmulx (i := s) (j := t) (by omega) (by omega)) ?_
      repeat walk_at "rd"
      refine w_fldI h1 T.l_Float T.n_power (flds_p _ _ _) ?_
      repeat walk_at "rd"
      refine w_I (cshl (i := 1) (j := 0 - p) (by decide) (by omega) (by omega)) ?_
      repeat walk_at "rd"
      refine w_tup2 fun a2 H2 s2 n2 h2 => ?_
      repeat walk_at "rd"
      refine q a2 H2 s2 n2 ?_
      rw [h2]
      unfold ratT ratB
      rw [if_pos c', if_pos c', Int.one_mul] <;> rfl
    · have c' : ¬ p < 0 := c
      repeat walk_at "rd"
      refine w_fldI h1 T.l_Float T.n_sign (flds_s _ _ _) ?_
      repeat walk_at "rd"
      refine w_fldI h1 T.l_Float T.n_top (flds_t _ _ _) ?_
      repeat walk_at "rd"
      refine w_fldI h1 T.l_Float T.n_power (flds_p _ _ _) ?_
      refine w_I (cshl (i := t) (j := p) (by omega) (by omega) (by omega)) ?_
      refine w_I (cmulx (i := s) (j := t * 2 ^ p.toNat) (by omega) (by have := bits_mul_pow t0 p.toNat; omega)) ?_
      repeat walk_at "rd"
      refine w_tup2 fun a2 H2 s2 n2 h2 => ?_
      repeat walk_at "rd"
      refine q a2 H2 s2 n2 ?_
      rw [h2]
      unfold ratT ratB
      rw [if_neg c', if_neg c'] <;> rfl
/-- a float is itself; an int of 64 bits the nearest -/
def spToF (K : PySem.W.Frag) (CF : Addr) : Sp := fun vs H Q _ => (∃ a f, vs = [.ref a] ∧ FlAt CF H a f ∧ Q (.ref a) H) ∨
  (∃ i, vs = [.int i] ∧ bits i ≤ 2000 ∧ NewF CF (nearM (if i < 0 then -1 else 1) (if i < 0 then -i else i) 1) H Q)
theorem sc_to_float : FnScope ["number"] ["number"] (defScope s_to_float) := ⟨rfl, rfl, rfl, by decide +kernel, rfl, by decide +kernel, by decide +kernel⟩
theorem ok_to_float (T : All K mg CF) (k_sign_of : Kn P w K mg base CX0 1 "sign_of" ["is_negative"] spSign) (k_nearest : Kn P w K mg base CX0 5 "nearest" ["sign", "top", "bottom"] (spNear CF)) : Kn P w K mg base CX0 6 "to_float" ["number"] (spToF K CF) := by
  refine T.x_to_float.kn fun f fd F => ?_
  refine F.ok sc_to_float (fun vs H Q E h => ?_) (fun cdv A outer s H vs Q E hr h => ?_)
  · rcases h with ⟨a, f, rfl, _⟩ | ⟨i, rfl, _⟩ <;> rfl
  · refine ⟨_, (pss_cons (ps_if (pt_val (pe_callB call_isi (by rfl) T.b_isinstance boot_isinstance (pa_cons (pv 0) (pa_cons (pg "Float" T.g_Float (rref _)) pa_nil)))) (pss_one (ps_ret (pv 0))) pss_nil)
      (pss_one (ps_ret (pk k_nearest hr (pa_cons (pk k_sign_of hr (pa_cons (pe_cmpR op_lt (pv 0) pe_int (nomark _)) pa_nil)) (pa_cons (pe_callB call_abs (by rfl) T.b_abs boot_abs (pa_cons (pv 0) pa_nil)) (pa_cons pe_int pa_nil))))))), ?_⟩
    rcases h with ⟨a, f, rfl, ⟨dx, h1⟩, q⟩ | ⟨i, rfl, hb, q⟩
    · obtain ⟨t, ty, i1, i2, i3, i4⟩ := says_fl T h1
      repeat walk_at "rd"
      refine w_isi (.own CF) ty i4 ?_
      repeat walk_at "rd"
      exact q
    · obtain ⟨t, ty, i1, i2, i3, i4⟩ := says_int (i := i) (H := H) T
      repeat walk_at "rd"
      refine w_isi (.own CF) ty i4 ?_
      repeat walk_at "rd"
      refine ⟨_, rfl, ?_⟩
      repeat walk_at "rd"
      refine ⟨_, _, _, rfl, ?_, ?_, by decide, ?_, by decide, ?_⟩
      · by_cases c : i < 0
        · rw [decide_eq_true c, if_pos rfl]; exact .inr rfl
        · rw [decide_eq_false c, if_neg Bool.false_ne_true]; exact .inl rfl
      · split <;> omega
      · have e : bits (if i < 0 then -i else i) = bits i := by
          split
          · exact congrArg Nat.cast (by unfold Builtin.Int.intBits; simp)
          · rfl
        rw [e]
        omega
      · have e : (if decide (i < 0) = true then (-1 : Int) else 1) = (if i < 0 then -1 else 1) := by
          by_cases c : i < 0
          · rw [decide_eq_true c, if_pos rfl, if_pos c]
          · rw [decide_eq_false c, if_neg Bool.false_ne_true, if_neg c]
        rw [e]
        exact q
theorem lk_fin (s : Int) (t : V) (p : Int) : (flds s t p).lookup ("is_finite" : Str) = none := flds_no s t p (by decide +kernel) (by decide +kernel) (by decide +kernel)
theorem lk_rat (s : Int) (t : V) (p : Int) : (flds s t p).lookup ("ratio" : Str) = none := flds_no s t p (by decide +kernel) (by decide +kernel) (by decide +kernel)
end
end Nu

set_option Elab.async false
set_option linter.all false
set_option maxRecDepth 100000
set_option autoImplicit false
set_option maxHeartbeats 4000000
namespace Nu
open PySem PySem.Spec PyProof.Rows L2 Rd
local macro_rules | `(tactic| walk_at "hp") => `(tactic| first | assumption | (refine same_get ?sm ?_; (case sm => assumption); walk_at "hp"))
local macro_rules | `(tactic| walk_at "rd") => `(tactic| first
  | with_reducible refine w_nx ?_
  | with_reducible refine w_rt ?_
  | with_reducible refine w_bk ?_
  | with_reducible refine w_ct ?_
  | with_reducible refine w_seq ?_
  | with_reducible refine w_next ?_
  | with_reducible refine w_ret ?_
  | with_reducible refine w_ifS ?_
  | with_reducible refine w_asg ?_
  | with_reducible refine w_name ?_
  | with_reducible refine w_par ?_
  | with_reducible refine w_parI ?_
  | with_reducible refine w_ii ?_
  | with_reducible refine w_i1 ?_
  | with_reducible refine w_drop ?_
  | with_reducible refine w_sFld ?_
  | ((with_reducible refine' w_var ?rdh ?_); (case rdh => exact rfl))
  | with_reducible refine w_c ?_
  | with_reducible refine w_op ?_
  | with_reducible refine w_un ?_
  | with_reducible refine w_I0 ?_
  | with_reducible refine w_U ?_
  | with_reducible refine w_bits ?_
  | with_reducible refine w_bitsI ?_
  | with_reducible refine w_tup ?_
  | with_reducible refine w_lst ?_
  | with_reducible refine w_nil ?_
  | with_reducible refine w_cons ?_
  | with_reducible refine w_fld ?_
  | with_reducible refine w_call ?_
  | with_reducible refine w_make ?_
  | with_reducible refine w_makeD ?_
  | with_reducible refine w_nn ?_
  | with_reducible refine w_subB ?_
  | with_reducible refine w_meth ?_
  | with_reducible refine w_cb ?_
  | with_reducible refine w_test ?_
  | with_reducible refine w_B ?_
  | with_reducible refine w_bl ?_
  | with_reducible refine w_andV ?_
  | with_reducible refine w_orV ?_
  | with_reducible refine w_notV ?_
  | with_reducible refine w_and ?_
  | with_reducible refine w_or ?_
  | with_reducible refine w_not ?_
  | with_reducible refine w_if ?_
  | with_reducible refine w_gnil ?_
  | with_reducible refine w_gcons ?_
  | with_reducible refine iT ?_
  | with_reducible refine iF ?_
  | with_reducible refine w_eqI ?_
  | with_reducible refine w_neI ?_
  | with_reducible refine w_eqS ?_
  | with_reducible refine w_eqIS ?_
  | with_reducible refine w_eqSI ?_)

/-! ### numbers -/
inductive Nm where
  | int (i : Int)
  | fl (f : Fl)
def NmAt (CF : Addr) (H : Hp) (x : V) : Nm → Prop
  | .int i => x = .int i ∧ bits i ≤ 70
  | .fl f => ∃ a, x = .ref a ∧ FlAt CF H a f ∧ f.ok
theorem NmAt.same {CF : Addr} {H H' : Hp} {x : V} : ∀ {n : Nm}, NmAt CF H x n → Same H H' → NmAt CF H' x n
  | .int _, h, _ => h
  | .fl _, ⟨a, e, h, o⟩, s => ⟨a, e, h.same s, o⟩
def place : Nm → Option (Int × Int)
  | .int i => some (i, 1)
  | .fl (.fin s t p) => some (ratT s t p, ratB p)
  | .fl (.inf s) => some (s * 2 ^ 1025, 1)
  | .fl .nan => none
theorem bits_mul (a b : Int) : bits (a * b) ≤ bits a + bits b := by
  have := intBits_mul_le (x := a) (y := b) (m := Builtin.Int.intBits a) (n := Builtin.Int.intBits b) (Nat.le_refl _) (Nat.le_refl _)
  unfold bits
  omega
theorem bits_pow (k : Nat) : bits (2 ^ k) = k + 1 := bits_eq (Int.le_refl _) (by rw [Int.pow_succ]; have := pow_pos2 k; omega)
theorem ratT_bits {s t p : Int} (h : (Fl.fin s t p).ok) : bits (ratT s t p) ≤ 1200 := by
  obtain ⟨bs, bt, p1, p2, t0, tp⟩ := ok_bounds h
  unfold ratT
  split
  · have := bits_mul s t; omega
  · have h1 := bits_mul s (t * 2 ^ p.toNat)
    have h2 := bits_mul_pow t0 p.toNat
    omega
theorem ratB_bits {s t p : Int} (h : (Fl.fin s t p).ok) : bits (ratB p) ≤ 1200 := by
  obtain ⟨bs, bt, p1, p2, t0, tp⟩ := ok_bounds h
  unfold ratB
  split
  · rw [bits_pow]; omega
  · decide
theorem ratB_pos (p : Int) : 0 < ratB p := by
  unfold ratB
  split
  · exact pow_pos2 _
  · decide
theorem place_bits {CF : Addr} {H : Hp} {x : V} {n : Nm} {a b : Int} (h : NmAt CF H x n) (e : place n = some (a, b)) : bits a ≤ 1200 ∧ bits b ≤ 1200 := by
  match n, h, e with
  | .int i, h, e =>
    cases e
    exact ⟨by have := h.2; omega, by decide⟩
  | .fl (.fin s t p), ⟨_, _, _, ok⟩, e =>
    cases e
    exact ⟨ratT_bits ok, ratB_bits ok⟩
  | .fl (.inf s), ⟨_, _, _, ok⟩, e =>
    cases e
    refine ⟨?_, by decide⟩
    have h1 := bits_mul s (2 ^ 1025)
    rw [bits_pow] at h1
    have h2 : bits s ≤ 1 := by rcases (show s = 1 ∨ s = -1 from ok) with rfl | rfl <;> decide
    omega
  | .fl .nan, _, e => cases e
section
variable {P : Program} {w : World} {K : PySem.W.Frag} {mg : Str → Option Value} {base : Heap} {CF : Addr}
theorem NmAt.says (T : All K mg CF) {H : Hp} {x : V} {n : Nm} (h : NmAt CF H x n) : ∃ pl fl, Says K CF H x pl false false fl ∧ (fl || ((pl || false) && !false)) = true ∧ (fl = match n with | .int _ => false | .fl _ => true) := by
  cases n with
  | int i =>
    obtain ⟨rfl, _⟩ := h
    exact ⟨true, false, says_int T, rfl, rfl⟩
  | fl f =>
    obtain ⟨a, rfl, ⟨dx, e⟩, _⟩ := h
    exact ⟨false, true, says_fl T e, rfl, rfl⟩
end
end Nu

set_option Elab.async false
set_option linter.all false
set_option maxRecDepth 100000
set_option autoImplicit false
set_option maxHeartbeats 4000000
namespace Nu
open PySem PySem.Spec PyProof.Rows L2 Rd
local macro_rules | `(tactic| walk_at "hp") => `(tactic| first | assumption | (refine same_get ?sm ?_; (case sm => assumption); walk_at "hp"))
local macro_rules | `(tactic| walk_at "rd") => `(tactic| first
  | with_reducible refine w_nx ?_
  | with_reducible refine w_rt ?_
  | with_reducible refine w_bk ?_
  | with_reducible refine w_ct ?_
  | with_reducible refine w_seq ?_
  | with_reducible refine w_next ?_
  | with_reducible refine w_ret ?_
  | with_reducible refine w_ifS ?_
  | with_reducible refine w_asg ?_
  | with_reducible refine w_name ?_
  | with_reducible refine w_par ?_
  | with_reducible refine w_parI ?_
  | with_reducible refine w_ii ?_
  | with_reducible refine w_i1 ?_
  | with_reducible refine w_drop ?_
  | with_reducible refine w_sFld ?_
  | ((with_reducible refine' w_var ?rdh ?_); (case rdh => exact rfl))
  | with_reducible refine w_c ?_
  | with_reducible refine w_op ?_
  | with_reducible refine w_un ?_
  | with_reducible refine w_I0 ?_
  | with_reducible refine w_U ?_
  | with_reducible refine w_bits ?_
  | with_reducible refine w_bitsI ?_
  | with_reducible refine w_tup ?_
  | with_reducible refine w_lst ?_
  | with_reducible refine w_nil ?_
  | with_reducible refine w_cons ?_
  | with_reducible refine w_fld ?_
  | with_reducible refine w_call ?_
  | with_reducible refine w_make ?_
  | with_reducible refine w_gsub ?_
  | with_reducible refine w_int1 ?_
  | with_reducible refine w_intB ?_
  | with_reducible refine w_for ?_
  | with_reducible refine w_rng1 ?_
  | with_reducible refine w_iList ?_
  | with_reducible refine w_iTup ?_
  | with_reducible refine w_makeD ?_
  | with_reducible refine w_nn ?_
  | with_reducible refine w_subB ?_
  | with_reducible refine w_meth ?_
  | with_reducible refine w_cb ?_
  | with_reducible refine w_test ?_
  | with_reducible refine w_B ?_
  | with_reducible refine w_bl ?_
  | with_reducible refine w_andV ?_
  | with_reducible refine w_orV ?_
  | with_reducible refine w_notV ?_
  | with_reducible refine w_and ?_
  | with_reducible refine w_or ?_
  | with_reducible refine w_not ?_
  | with_reducible refine w_if ?_
  | with_reducible refine w_gnil ?_
  | with_reducible refine w_gcons ?_
  | with_reducible refine iT ?_
  | with_reducible refine iF ?_
  | with_reducible refine w_eqI ?_
  | with_reducible refine w_neI ?_
  | with_reducible refine w_eqS ?_
  | with_reducible refine w_eqIS ?_
  | with_reducible refine w_eqSI ?_)

abbrev s_law_well : Stmt := top 55
abbrev s_law_draw : Stmt := top 56
abbrev s_law_one : Stmt := top 57
structure AllL (K : PySem.W.Frag) (mg : Str → Option Value) (CF : Addr) : Prop extends All K mg CF where
  x_well : Tx K mg "_law_well" "_law_well" s_law_well ["cell"]
  x_draw : Tx K mg "_law_draw" "_law_draw" s_law_draw ["well", "many"]
  x_one : Tx K mg "_law_one" "_law_one" s_law_one ["well", "some"]
/-! ### the well: a list of three ints -/
structure WellD (n : Nat) (a b c : Int) : Prop where
  a0 : 0 ≤ a
  a1 : bits a ≤ 1048580
  b0 : 0 ≤ b
  b1 : b < 2147483647
  c0 : 0 ≤ c
  c1 : c ≤ n
def Well (n : Nat) (H : Hp) (w : Addr) : Prop := ∃ a b c, H w = some (.lst [.int a, .int b, .int c]) ∧ WellD n a b c
theorem Well.mono {n m : Nat} {H : Hp} {w : Addr} (h : Well n H w) (hm : n ≤ m) : Well m H w := by
  obtain ⟨a, b, c, e, d⟩ := h
  exact ⟨a, b, c, e, ⟨d.a0, d.a1, d.b0, d.b1, d.c0, by have := d.c1; omega⟩⟩
theorem Well.same {n : Nat} {H H' : Hp} {w : Addr} (h : Well n H w) (s : Same H H') : Well n H' w := by
  obtain ⟨a, b, c, e, d⟩ := h
  exact ⟨a, b, c, s _ _ e, d⟩
theorem bits_small {n : Int} {k : Nat} (h0 : 0 ≤ n) (h : n < 2 ^ k) : bits n ≤ k := (bits_lt_pow h0).2 h
theorem bits_i (n : Int) : bits n = (Builtin.Int.intBits n : Nat) := rfl
theorem cmulS {i j : Int} (h : i.natAbs < 18446744073709551616) (h' : j.natAbs < 18446744073709551616) : CMulX i j := by
  refine cmulW ?_
  have a := (bits_le (n := i) (k := 64)).2 h
  have b := (bits_le (n := j) (k := 64)).2 h'
  unfold bits at a b
  omega
section
variable {P : Program} {w : World} {K : PySem.W.Frag} {mg : Str → Option Value} {base : Heap} {CF : Addr}
def spWell : Sp := fun vs H Q _ => ∃ c, vs = [.int c] ∧ bits c ≤ 1048576 ∧ ∀ p H', Same H H' → H p = none → Well 0 H' p → Q (.ref p) H'
theorem sc_law_well : FnScope ["cell"] ["cell"] (defScope s_law_well) := ⟨rfl, rfl, rfl, by decide +kernel, rfl, by decide +kernel, by decide +kernel⟩
theorem ok_well (T : AllL K mg CF) : Kn P w K mg base CX0 1 "_law_well" ["cell"] spWell := by
  refine T.x_well.kn fun f fd F => ?_
  refine F.ok sc_law_well (fun vs H Q E h => ?_) (fun cdv A outer s H vs Q E hr h => ?_)
  · obtain ⟨c, rfl, _⟩ := h
    rfl
  · obtain ⟨c, rfl, hc, q⟩ := h
    refine ⟨_, (pss_one (ps_ret (pe_lst (pa_cons (pe_op op_mulX (pv 0) (pe_callTy call_int1 (by rfl) T.b_int boot_int (pa_cons (pe_cmpR op_ge (pv 0) (pe_op op_pow pe_int pe_int) (nomark _)) pa_nil))) (pa_cons (pe_op op_mod (pe_callTy call_int1 (by rfl) T.b_int boot_int (pa_cons (pv 0) pa_nil)) pe_int) (pa_cons pe_int pa_nil)))))), ?_⟩
    repeat walk_at "rd"
    refine w_I (cpow (by decide) (by decide) (by decide)) ?_
    repeat walk_at "rd"
    refine w_I (cmulW (by have : bits (if decide (10 ^ Int.toNat 18 ≤ c) = true then (1 : Int) else 0) ≤ 1 := by split <;> decide
                          unfold bits at this hc; omega)) ?_
    repeat walk_at "rd"
    refine w_I (by decide) ?_
    repeat walk_at "rd"
    refine w_lst3 fun p H' s n h => ?_
    refine q p H' s n ⟨_, _, _, h, ?_⟩
    by_cases g : (10 : Int) ^ Int.toNat 18 ≤ c
    · rw [decide_eq_true g, if_pos rfl, Int.mul_one]
      have : (0 : Int) < 10 ^ Int.toNat 18 := by decide
      exact ⟨by omega, by omega, Int.emod_nonneg _ (by decide), Int.emod_lt_of_pos _ (by decide), Int.le_refl _, Int.le_refl _⟩
    · rw [decide_eq_false g, if_neg Bool.false_ne_true, Int.mul_zero]
      exact ⟨Int.le_refl _, by decide, Int.emod_nonneg _ (by decide), Int.emod_lt_of_pos _ (by decide), Int.le_refl _, Int.le_refl _⟩
/-! ### a draw -/
def spDraw : Sp := fun vs H Q _ => ∃ p many n, vs = [.ref p, .int many] ∧ Well n H p ∧ n < 1000000 ∧ 0 < many ∧ bits many ≤ 64 ∧
  ∀ r H', Oth p H H' → Well (n + 1) H' p → 0 ≤ r → r < many → Q (.int r) H'
theorem sc_law_draw : FnScope ["well", "many", "digit", "number"] ["well", "many"] (defScope s_law_draw) := ⟨rfl, rfl, rfl, by decide +kernel, rfl, by decide +kernel, by decide +kernel⟩
theorem ok_draw (T : AllL K mg CF) : Kn P w K mg base CX0 1 "_law_draw" ["well", "many"] spDraw := by
  refine T.x_draw.kn fun f fd F => ?_
  refine F.ok sc_law_draw (fun vs H Q E h => ?_) (fun cdv A outer s H vs Q E hr h => ?_)
  · obtain ⟨p, many, n, rfl, _⟩ := h
    rfl
  · obtain ⟨p, many, n, rfl, ⟨a, b, c, hw, d⟩, hn, m0, m1, q⟩ := h
    refine ⟨_, (pss_cons (ps_if (pt_cmpR op_gt (pe_ix ix_list (pv 0) pe_int (fun _ _ => rfl)) pe_int (nomark _)) (pss_cons (ps_set (i := 2) sc_law_draw.nd rfl (Or.inl rfl) (pe_op op_mod (pe_callTy call_int1 (by rfl) T.b_int boot_int (pa_cons (pe_ix ix_list (pv 0) pe_int (fun _ _ => rfl)) pa_nil)) (pv 1)))
      (pss_cons (ps_asg (pe_op op_fdivW (pe_ix ix_list (pv 0) pe_int (fun _ _ => rfl)) (pv 1)) (pg_sub (pv 0) pe_int set_list))
      (pss_one (ps_ret (pv 2))))) pss_nil)
      (pss_cons (ps_asg (pe_op op_add (pe_ix ix_list (pv 0) pe_int (fun _ _ => rfl)) pe_int) (pg_sub (pv 0) pe_int set_list))
      (pss_cons (ps_set (i := 3) sc_law_draw.nd rfl (Or.inl rfl) (pe_op op_mod (pe_callTy call_int1 (by rfl) T.b_int boot_int (pa_cons (pe_op op_add (pe_op op_add (pe_op op_mulX (pe_ix ix_list (pv 0) pe_int (fun _ _ => rfl)) pe_int) (pe_op op_mulX pe_int (pe_ix ix_list (pv 0) pe_int (fun _ _ => rfl)))) pe_int) pa_nil)) pe_int))
      (pss_cons (ps_set (i := 3) sc_law_draw.nd rfl (Or.inl rfl) (pe_op op_mod (pe_callTy call_int1 (by rfl) T.b_int boot_int (pa_cons (pe_op op_mulX (pv 3) (pe_op op_add (pe_op op_fdivW (pv 3) pe_int) pe_int)) pa_nil)) pe_int))
      (pss_cons (ps_set (i := 3) sc_law_draw.nd rfl (Or.inl rfl) (pe_op op_mod (pe_callTy call_int1 (by rfl) T.b_int boot_int (pa_cons (pe_op op_mulX (pv 3) (pe_op op_add (pe_op op_add (pe_op op_fdivW (pv 3) pe_int) pe_int) (pe_ix ix_list (pv 0) pe_int (fun _ _ => rfl)))) pa_nil)) pe_int))
      (pss_one (ps_ret (pe_op op_mod (pe_callTy call_int1 (by rfl) T.b_int boot_int (pa_cons (pe_op op_fdivW (pv 3) pe_int) pa_nil)) (pv 1))))))))), ?_⟩
    obtain ⟨a0, a1, b0, b1, c0, c1⟩ := d
    repeat walk_at "rd"
    refine w_ixL hw (v := .int a) rfl ?_
    repeat walk_at "rd"
    refine iD (fun g => ?_) (fun g => ?_)
    · repeat walk_at "rd"
      refine w_ixL hw (v := .int a) rfl ?_
      repeat walk_at "rd"
      refine w_I m0 ?_
      repeat walk_at "rd"
      refine w_ixL hw (v := .int a) rfl ?_
      repeat walk_at "rd"
      refine w_I (cdivw m0 (by omega)) ?_
      repeat walk_at "rd"
      refine w_setL hw rfl ?_
      repeat walk_at "rd"
      refine q _ _ Oth.refl.put ⟨_, _, _, upd_same, ?_⟩ (Int.emod_nonneg _ (by omega)) (Int.emod_lt_of_pos _ m0)
      have e : a / many ≤ a := Int.ediv_le_self _ a0
      have e0 : 0 ≤ a / many := Int.ediv_nonneg a0 (by omega)
      exact ⟨e0, by have := bits_mono e0 e; omega, b0, b1, c0, by omega⟩
    · repeat walk_at "rd"
      refine w_ixL hw (v := .int c) rfl ?_
      repeat walk_at "rd"
      refine w_setL (j := 2) hw rfl ?_
      have hw2 := upd_same (H := H) (a := p) (o := .lst (List.set [V.int a, .int b, .int c] 2 (.int (c + 1))))
      have o2 := (Oth.refl (x := p) (H := H)).put (o := .lst (List.set [V.int a, .int b, .int c] 2 (.int (c + 1))))
      generalize upd H p (.lst (List.set [V.int a, .int b, .int c] 2 (.int (c + 1)))) = H2 at hw2 o2 ⊢
      change H2 p = some (.lst [.int a, .int b, .int (c + 1)]) at hw2
      have W2 : Well (n + 1) H2 p := ⟨_, _, _, hw2, ⟨a0, a1, b0, b1, by omega, by omega⟩⟩
      repeat walk_at "rd"
      refine w_ixL hw2 (v := .int b) rfl ?_
      repeat walk_at "rd"
      refine w_I (cmulS (by omega) (by decide)) ?_
      repeat walk_at "rd"
      refine w_ixL hw2 (v := .int (c + 1)) rfl ?_
      refine w_I (cmulS (by decide) (by omega)) ?_
      repeat walk_at "rd"
      refine w_I (by decide) ?_
      have g0 := Int.emod_nonneg (b * 48271 + 30103 * (c + 1) + 11) (show (2147483647 : Int) ≠ 0 by decide)
      have g1 := Int.emod_lt_of_pos (b * 48271 + 30103 * (c + 1) + 11) (show (0 : Int) < 2147483647 by decide)
      generalize (b * 48271 + 30103 * (c + 1) + 11) % 2147483647 = x1 at g0 g1 ⊢
      repeat walk_at "rd"
      refine w_I (cdivw (by decide) (by decide)) ?_
      repeat walk_at "rd"
      refine w_I (cmulS (by omega) (by omega)) ?_
      repeat walk_at "rd"
      refine w_I (by decide) ?_
      have g2 := Int.emod_nonneg (x1 * (x1 / 1009 + 69621)) (show (2147483629 : Int) ≠ 0 by decide)
      have g3 := Int.emod_lt_of_pos (x1 * (x1 / 1009 + 69621)) (show (0 : Int) < 2147483629 by decide)
      generalize x1 * (x1 / 1009 + 69621) % 2147483629 = x2 at g2 g3 ⊢
      repeat walk_at "rd"
      refine w_I (cdivw (by decide) (by decide)) ?_
      repeat walk_at "rd"
      refine w_ixL hw2 (v := .int (c + 1)) rfl ?_
      repeat walk_at "rd"
      refine w_I (cmulS (by omega) (by omega)) ?_
      repeat walk_at "rd"
      refine w_I (by decide) ?_
      repeat walk_at "rd"
      refine w_I (cdivw (by decide) (by decide)) ?_
      repeat walk_at "rd"
      refine w_I m0 ?_
      exact q _ _ o2 W2 (Int.emod_nonneg _ (by omega)) (Int.emod_lt_of_pos _ m0)
/-! ### one of some -/
def spOne : Sp := fun vs H Q _ => ∃ (p l : Addr) (n : Nat) (xs : List V), vs = [.ref p, .ref l] ∧ Well n H p ∧ n < 1000000 ∧ l ≠ p ∧ H l = some (.lst xs) ∧ 0 < xs.length ∧ xs.length ≤ 1000 ∧
  ∀ (i : Nat) v H', xs[i]? = some v → Oth p H H' → Well (n + 1) H' p → Q v H'
theorem atI_nat {xs : List V} {r : Int} (h0 : 0 ≤ r) (h1 : r < xs.length) : ∃ v, atI xs r = some v ∧ xs[r.toNat]? = some v := by
  obtain ⟨k, rfl⟩ := Int.eq_ofNat_of_zero_le h0
  have h : k < xs.length := by omega
  refine ⟨xs[k], ?_, ?_⟩
  · unfold atI ixN
    rw [if_pos h0, if_pos h1]
    simp [h]
  · simp [h]
theorem sc_law_one : FnScope ["well", "some"] ["well", "some"] (defScope s_law_one) := ⟨rfl, rfl, rfl, by decide +kernel, rfl, by decide +kernel, by decide +kernel⟩
theorem ok_one (T : AllL K mg CF) (k_law_draw : Kn P w K mg base CX0 1 "_law_draw" ["well", "many"] spDraw) : Kn P w K mg base CX0 2 "_law_one" ["well", "some"] spOne := by
  refine T.x_one.kn fun f fd F => ?_
  refine F.ok sc_law_one (fun vs H Q E h => ?_) (fun cdv A outer s H vs Q E hr h => ?_)
  · obtain ⟨p, l, n, xs, rfl, _⟩ := h
    rfl
  · obtain ⟨p, l, n, xs, rfl, hw, hn, lp, hl, l0, l1, q⟩ := h
    refine ⟨_, (pss_one (ps_ret (pe_ix ix_list (pv 1) (pk k_law_draw hr (pa_cons (pv 0) (pa_cons (pe_callB call_len_seq (by rfl) T.b_len boot_len (pa_cons (pv 1) pa_nil)) pa_nil))) (fun _ _ => rfl)))), ?_⟩
    repeat walk_at "rd"
    refine w_lenL hl ?_
    repeat walk_at "rd"
    refine ⟨p, _, n, rfl, hw, hn, by omega, ?_, fun r H' o W r0 r1 => ?_⟩
    · have := (bits_lt_pow (n := (xs.length : Int)) (k := 64) (by omega)).2 (Int.lt_trans (show (xs.length : Int) < 18446744073709551615 by omega) (by decide))
      exact this
    repeat walk_at "rd"
    obtain ⟨v, e1, e2⟩ := atI_nat r0 r1
    refine w_ixL (o l _ lp hl) e1 ?_
    exact q _ v H' e2 o W
end
end Nu

set_option Elab.async false
set_option linter.all false
set_option maxRecDepth 100000
set_option autoImplicit false
set_option maxHeartbeats 4000000
namespace Nu
open PySem PySem.Spec PyProof.Rows L2 Rd
local macro_rules | `(tactic| walk_at "hp") => `(tactic| first | assumption | (refine same_get ?sm ?_; (case sm => assumption); walk_at "hp"))
local macro_rules | `(tactic| walk_at "rd") => `(tactic| first
  | with_reducible refine w_nx ?_
  | with_reducible refine w_rt ?_
  | with_reducible refine w_bk ?_
  | with_reducible refine w_ct ?_
  | with_reducible refine w_seq ?_
  | with_reducible refine w_next ?_
  | with_reducible refine w_ret ?_
  | with_reducible refine w_ifS ?_
  | with_reducible refine w_asg ?_
  | with_reducible refine w_name ?_
  | with_reducible refine w_par ?_
  | with_reducible refine w_parI ?_
  | with_reducible refine w_ii ?_
  | with_reducible refine w_i1 ?_
  | with_reducible refine w_drop ?_
  | with_reducible refine w_sFld ?_
  | ((with_reducible refine' w_var ?rdh ?_); (case rdh => exact rfl))
  | with_reducible refine w_c ?_
  | with_reducible refine w_op ?_
  | with_reducible refine w_un ?_
  | with_reducible refine w_I0 ?_
  | with_reducible refine w_U ?_
  | with_reducible refine w_bits ?_
  | with_reducible refine w_bitsI ?_
  | with_reducible refine w_tup ?_
  | with_reducible refine w_lst ?_
  | with_reducible refine w_nil ?_
  | with_reducible refine w_cons ?_
  | with_reducible refine w_fld ?_
  | with_reducible refine w_call ?_
  | with_reducible refine w_make ?_
  | with_reducible refine w_gsub ?_
  | with_reducible refine w_int1 ?_
  | with_reducible refine w_intB ?_
  | with_reducible refine w_for ?_
  | with_reducible refine w_rng1 ?_
  | with_reducible refine w_iList ?_
  | with_reducible refine w_iTup ?_
  | with_reducible refine w_makeD ?_
  | with_reducible refine w_nn ?_
  | with_reducible refine w_subB ?_
  | with_reducible refine w_meth ?_
  | with_reducible refine w_cb ?_
  | with_reducible refine w_test ?_
  | with_reducible refine w_B ?_
  | with_reducible refine w_bl ?_
  | with_reducible refine w_andV ?_
  | with_reducible refine w_orV ?_
  | with_reducible refine w_notV ?_
  | with_reducible refine w_and ?_
  | with_reducible refine w_or ?_
  | with_reducible refine w_not ?_
  | with_reducible refine w_if ?_
  | with_reducible refine w_gnil ?_
  | with_reducible refine w_gcons ?_
  | with_reducible refine iT ?_
  | with_reducible refine iF ?_
  | with_reducible refine w_eqI ?_
  | with_reducible refine w_neI ?_
  | with_reducible refine w_eqS ?_
  | with_reducible refine w_eqIS ?_
  | with_reducible refine w_eqSI ?_)

abbrev s_Float_eq : Stmt := inClass (top 12) 2
abbrev s_nan : Stmt := top 17
abbrev s_added : Stmt := top 28
abbrev s_multiplied : Stmt := top 29
abbrev s_divided : Stmt := top 30
abbrev s_floored : Stmt := top 31
abbrev s_remainder : Stmt := top 32
abbrev s_by_floats : Stmt := top 27
abbrev s_arith : Stmt := top 24
abbrev s_wrapped : Stmt := top 21
structure AllN (K : PySem.W.Frag) (mg : Str → Option Value) (CF : Addr) : Prop extends AllL K mg CF where
  q_Float : EqC K CF
  x_eq : TxM K CF "__eq__" "Float.__eq__" s_Float_eq ["self", "other"]
  x_nan : Tx K mg "nan" "nan" s_nan []
  x_added : Tx K mg "added" "added" s_added ["one", "other"]
  x_multiplied : Tx K mg "multiplied" "multiplied" s_multiplied ["one", "other"]
  x_divided : Tx K mg "divided" "divided" s_divided ["one", "other"]
  x_floored : Tx K mg "floored" "floored" s_floored ["number"]
  x_remainder : Tx K mg "remainder" "remainder" s_remainder ["one", "other"]
  x_by_floats : Tx K mg "by_floats" "by_floats" s_by_floats ["word", "one", "other"]
  x_arith : Tx K mg "arith" "arith" s_arith ["word", "one", "other"]
  x_wrapped : Tx K mg "wrapped" "wrapped" s_wrapped ["number"]
/-! ### the sum of two floats -/
def addM : Fl → Fl → Fl
  | .nan, _ => .nan
  | _, .nan => .nan
  | .inf s, .inf r => if s = r then .inf s else .nan
  | .inf s, .fin _ _ _ => .inf s
  | .fin _ _ _, .inf r => .inf r
  | .fin s t p, .fin r u q => if t = 0 ∧ u = 0 then .fin (if r > s then r else s) 0 0 else
    nearM (if ratT s t p * ratB q + ratT r u q * ratB p < 0 then -1 else 1) (if ratT s t p * ratB q + ratT r u q * ratB p < 0 then -(ratT s t p * ratB q + ratT r u q * ratB p) else ratT s t p * ratB q + ratT r u q * ratB p) (ratB p * ratB q)
theorem addM_ii (s r : Int) : addM (.inf s) (.inf r) = if s = r then .inf s else .nan := rfl
theorem addM_ff (s t p r u q : Int) : addM (.fin s t p) (.fin r u q) = if t = 0 ∧ u = 0 then .fin (if r > s then r else s) 0 0 else
    nearM (if ratT s t p * ratB q + ratT r u q * ratB p < 0 then -1 else 1) (if ratT s t p * ratB q + ratT r u q * ratB p < 0 then -(ratT s t p * ratB q + ratT r u q * ratB p) else ratT s t p * ratB q + ratT r u q * ratB p) (ratB p * ratB q) := rfl
theorem bits_abs (n : Int) : bits (if n < 0 then -n else n) = bits n := by
  unfold bits
  split
  · rw [show Builtin.Int.intBits (-n) = Builtin.Int.intBits n by simp [Builtin.Int.intBits]]
  · rfl
theorem bits_add {a b : Int} {k : Nat} (ha : bits a ≤ k) (hb : bits b ≤ k) : bits (a + b) ≤ ((k + 1 : Nat) : Int) := by
  have h1 := bits_le.1 ha
  have h2 := bits_le.1 hb
  refine bits_le.2 ?_
  have h3 : (a + b).natAbs ≤ a.natAbs + b.natAbs := Int.natAbs_add_le a b
  rw [Nat.pow_succ]
  omega
theorem ratT_b {s t p : Int} (h : (Fl.fin s t p).ok) : bits (ratT s t p) ≤ 1025 := by
  obtain ⟨bs, bt, p1, p2, t0, tp⟩ := ok_bounds h
  unfold ratT
  split
  · have := bits_mul s t; omega
  · have h1 := bits_mul s (t * 2 ^ p.toNat)
    have h2 := bits_mul_pow t0 p.toNat
    omega
theorem ratB_b {s t p : Int} (h : (Fl.fin s t p).ok) : bits (ratB p) ≤ 1075 := by
  obtain ⟨bs, bt, p1, p2, t0, tp⟩ := ok_bounds h
  unfold ratB
  split
  · rw [bits_pow]; omega
  · decide
theorem abs_nn (n : Int) : 0 ≤ (if n < 0 then -n else n) := by split <;> omega
theorem sgn_pm (n : Int) : (if n < 0 then (-1 : Int) else 1) = 1 ∨ (if n < 0 then (-1 : Int) else 1) = -1 := by
  split
  · exact .inr rfl
  · exact .inl rfl
theorem top_bits {s t p r u q : Int} (h : (Fl.fin s t p).ok) (k : (Fl.fin r u q).ok) : bits (ratT s t p * ratB q + ratT r u q * ratB p) ≤ 2150 := by
  have h1 := bits_mul (ratT s t p) (ratB q)
  have h2 := bits_mul (ratT r u q) (ratB p)
  have := ratT_b h
  have := ratB_b h
  have := ratT_b k
  have := ratB_b k
  have := bits_add (a := ratT s t p * ratB q) (b := ratT r u q * ratB p) (k := 2100) (by omega) (by omega)
  omega
theorem bot_bits {s t p r u q : Int} (h : (Fl.fin s t p).ok) (k : (Fl.fin r u q).ok) : bits (ratB p * ratB q) ≤ 2150 := by
  have h1 := bits_mul (ratB p) (ratB q)
  have := ratB_b h
  have := ratB_b k
  omega
theorem nearM_ok {s t b : Int} (hs : s = 1 ∨ s = -1) (ht : 0 ≤ t) (hb : 0 < b) : (nearM s t b).ok := by
  unfold nearM
  by_cases z : t = 0
  · rw [if_pos z]
    exact ⟨hs, by decide, by decide, fun _ => rfl, fun h => absurd rfl h⟩
  · rw [if_neg z]
    by_cases c : 1024 < bits (wh t b) + p2 t b
    · rw [if_pos c]
      exact hs
    · rw [if_neg c]
      exact Arg.ok (tv := .int (wh t b)) (p := p2 t b) (.inl ⟨wh t b, rfl, wh_nn ht hb, hs, wh_fits ht hb (Int.not_lt.mp c), rfl⟩)
theorem addM_ok {f g : Fl} (hf : f.ok) (hg : g.ok) : (addM f g).ok := by
  cases f with
  | nan => exact trivial
  | inf s =>
    cases g with
    | nan => exact trivial
    | inf r =>
      rw [addM_ii]
      split
      · exact hf
      · exact trivial
    | fin r u q => exact hf
  | fin s t p =>
    cases g with
    | nan => exact trivial
    | inf r => exact hg
    | fin r u q =>
      rw [addM_ff]
      split
      · obtain ⟨h1, _⟩ := hf
        obtain ⟨h2, _⟩ := hg
        refine ⟨?_, by decide, by decide, fun _ => rfl, fun h => absurd rfl h⟩
        split <;> assumption
      · exact nearM_ok (sgn_pm _) (abs_nn _) (Int.mul_pos (ratB_pos p) (ratB_pos q))
section
variable {P : Program} {w : World} {K : PySem.W.Frag} {mg : Str → Option Value} {base : Heap} {CF : Addr}
def spNan (CF : Addr) : Sp := fun vs H Q _ => vs = [] ∧ NewF CF .nan H Q
theorem sc_nan : FnScope [] [] (defScope s_nan) := ⟨rfl, rfl, rfl, by decide +kernel, rfl, by decide +kernel, by decide +kernel⟩
theorem ok_nan (T : AllN K mg CF) (k_Float_init : KnC P w K mg base CX0 2 "Float" CF ["self", "sign", "top", "power"] (spInit CF)) : Kn P w K mg base CX0 4 "nan" [] (spNan CF) := by
  refine T.x_nan.kn fun f fd F => ?_
  refine F.ok sc_nan (fun vs H Q E h => ?_) (fun cdv A outer s H vs Q E hr h => ?_)
  · obtain ⟨rfl, _⟩ := h
    rfl
  · obtain ⟨rfl, q⟩ := h
    refine ⟨_, (pss_one (ps_ret (pkC k_Float_init hr (pa_cons pe_int (pa_cons pe_str (pa_cons pe_int pa_nil)))))), ?_⟩
    repeat walk_at "rd"
    exact u_Float (.inr (.inr ⟨rfl, rfl, rfl, rfl⟩)) fun x H' s1 n1 h1 => q x H' s1 n1 h1
/-- added(f, g), no nan among them -/
def spAdded (CF : Addr) : Sp := fun vs H Q _ => ∃ a b f g, vs = [.ref a, .ref b] ∧ FlAt CF H a f ∧ FlAt CF H b g ∧ f.ok ∧ g.ok ∧ f ≠ .nan ∧ g ≠ .nan ∧ ∀ x H', Same H H' → FlAt CF H' x (addM f g) → Q (.ref x) H'
theorem s_inf {a : Str} (h : ¬ a = "inf" := by decide +kernel) : ¬ V.str a = V.str "inf" := fun z => h (V.str.inj z)
theorem sc_added : FnScope ["one", "other", "first", "second", "top"] ["one", "other"] (defScope s_added) := ⟨rfl, rfl, rfl, by decide +kernel, rfl, by decide +kernel, by decide +kernel⟩
theorem ok_added (T : AllN K mg CF) (k_nan : Kn P w K mg base CX0 4 "nan" [] (spNan CF)) (k_Float_init : KnC P w K mg base CX0 2 "Float" CF ["self", "sign", "top", "power"] (spInit CF)) (k_Float_ratio : KnM P w K mg base CX0 1 CF "ratio" ["self"] (spRatio CF))
    (k_sign_of : Kn P w K mg base CX0 1 "sign_of" ["is_negative"] spSign) (k_nearest : Kn P w K mg base CX0 5 "nearest" ["sign", "top", "bottom"] (spNear CF)) : Kn P w K mg base CX0 6 "added" ["one", "other"] (spAdded CF) := by
  refine T.x_added.kn fun f fd F => ?_
  refine F.ok sc_added (fun vs H Q E h => ?_) (fun cdv A outer s H vs Q E hr h => ?_)
  · obtain ⟨a, b, f, g, rfl, _⟩ := h
    rfl
  · obtain ⟨a, b, f, g, rfl, hf, hg, okf, okg, nf, ng, q⟩ := h
    refine ⟨_, (pss_cons (ps_if (PW.pt (pw_or (pt_cmpR op_eq (pe_fld (pv 0) rfl) pe_str (nomark _)) (pw_or1 (pt_cmpR op_eq (pe_fld (pv 1) rfl) pe_str (nomark _))))) (pss_cons (ps_if (PW.pt (pw_and (pt_cmpR op_eq (pe_fld (pv 0) rfl) (pe_fld (pv 1) rfl) (nomark _)) (pw_and1 (pt_cmpR op_ne (pe_fld (pv 0) rfl) (pe_fld (pv 1) rfl) (nomark _))))) (pss_one (ps_ret (pk0 k_nan hr))) pss_nil)
      (pss_one (ps_ret (pe_ifExp (pt_cmpR op_eq (pe_fld (pv 0) rfl) pe_str (nomark _)) (pv 0) (pv 1))))) pss_nil)
      (pss_cons (ps_if (PW.pt (pw_and (pt_cmpR op_eq (pe_fld (pv 0) rfl) pe_int (nomark _)) (pw_and1 (pt_cmpR op_eq (pe_fld (pv 1) rfl) pe_int (nomark _))))) (pss_one (ps_ret (pkC k_Float_init hr (pa_cons (pe_callB (call_max2 rfl) (by rfl) T.b_max boot_max (pa_cons (pe_fld (pv 0) rfl) (pa_cons (pe_fld (pv 1) rfl) pa_nil))) (pa_cons pe_int (pa_cons pe_int pa_nil)))))) pss_nil)
      (pss_cons (ps_par (by rfl) sc_added.nd (i := 2) (j := 3) rfl rfl (by decide) rfl rfl (pa_cons (pkM0 k_Float_ratio T.l_Float hr (pv 0) rfl) (pa_cons (pkM0 k_Float_ratio T.l_Float hr (pv 1) rfl) pa_nil)) (by rfl))
      (pss_cons (ps_set (i := 4) sc_added.nd rfl (Or.inl rfl) (pe_op op_add (pe_op op_mulX (pe_ix ix_tup (pv 2) pe_int (fun _ _ => rfl)) (pe_ix ix_tup (pv 3) pe_int (fun _ _ => rfl))) (pe_op op_mulX (pe_ix ix_tup (pv 3) pe_int (fun _ _ => rfl)) (pe_ix ix_tup (pv 2) pe_int (fun _ _ => rfl)))))
      (pss_one (ps_ret (pk k_nearest hr (pa_cons (pk k_sign_of hr (pa_cons (pe_cmpR op_lt (pv 4) pe_int (nomark _)) pa_nil)) (pa_cons (pe_callB call_abs (by rfl) T.b_abs boot_abs (pa_cons (pv 4) pa_nil)) (pa_cons (pe_op op_mulX (pe_ix ix_tup (pv 2) pe_int (fun _ _ => rfl)) (pe_ix ix_tup (pv 3) pe_int (fun _ _ => rfl))) pa_nil)))))))))), ?_⟩
    obtain ⟨dx, h1⟩ := id hf
    obtain ⟨dy, h2⟩ := id hg
    repeat walk_at "rd"
    refine w_fldI h1 T.l_Float T.n_top (flds_t _ _ _) ?_
    repeat walk_at "rd"
    cases f with
    | nan => exact absurd rfl nf
    | inf s =>
      refine w_eqS ?_
      repeat walk_at "rd"
      refine iD (fun _ => ?_) (fun z => absurd rfl z)
      refine iT ?_
      repeat walk_at "rd"
      refine w_fldI h1 T.l_Float T.n_top (flds_t _ _ _) ?_
      repeat walk_at "rd"
      refine w_fldI h2 T.l_Float T.n_top (flds_t _ _ _) ?_
      cases g with
      | nan => exact absurd rfl ng
      | inf r =>
        refine w_eqS ?_
        repeat walk_at "rd"
        refine iD (fun _ => ?_) (fun z => absurd rfl z)
        repeat walk_at "rd"
        refine w_fldI h1 T.l_Float T.n_sign (flds_s _ _ _) ?_
        repeat walk_at "rd"
        refine w_fldI h2 T.l_Float T.n_sign (flds_s _ _ _) ?_
        refine w_neI ?_
        repeat walk_at "rd"
        rw [addM_ii] at q
        refine iN (fun z => ?_) (fun z => ?_)
        · rw [if_neg (show ¬ s = r from z)] at q
          repeat walk_at "rd"
          exact ⟨rfl, fun x H' s1 n1 h1 => q x H' s1 h1⟩
        · rw [if_pos (show s = r from z)] at q
          repeat walk_at "rd"
          refine w_fldI h1 T.l_Float T.n_top (flds_t _ _ _) ?_
          repeat walk_at "rd"
          refine w_eqS ?_
          repeat walk_at "rd"
          refine iD (fun _ => ?_) (fun z => absurd rfl z)
          repeat walk_at "rd"
          exact q a H (Same.refl H) hf
      | fin r u p2 =>
        refine w_eqSI ?_
        repeat walk_at "rd"
        refine w_fldI h1 T.l_Float T.n_top (flds_t _ _ _) ?_
        repeat walk_at "rd"
        refine w_eqS ?_
        repeat walk_at "rd"
        refine iD (fun _ => ?_) (fun z => absurd rfl z)
        repeat walk_at "rd"
        exact q a H (Same.refl H) hf
    | fin s t p =>
      refine w_eqIS ?_
      repeat walk_at "rd"
      refine w_fldI h2 T.l_Float T.n_top (flds_t _ _ _) ?_
      repeat walk_at "rd"
      cases g with
      | nan => exact absurd rfl ng
      | inf r =>
        refine w_eqS ?_
        repeat walk_at "rd"
        refine iD (fun _ => ?_) (fun z => absurd rfl z)
        repeat walk_at "rd"
        refine w_fldI h1 T.l_Float T.n_top (flds_t _ _ _) ?_
        repeat walk_at "rd"
        refine w_fldI h2 T.l_Float T.n_top (flds_t _ _ _) ?_
        refine w_eqIS ?_
        repeat walk_at "rd"
        refine w_fldI h1 T.l_Float T.n_top (flds_t _ _ _) ?_
        repeat walk_at "rd"
        refine w_eqIS ?_
        repeat walk_at "rd"
        exact q b H (Same.refl H) hg
      | fin r u p2 =>
        refine w_eqIS ?_
        repeat walk_at "rd"
        refine w_fldI h1 T.l_Float T.n_top (flds_t _ _ _) ?_
        repeat walk_at "rd"
        refine w_eqI ?_
        repeat walk_at "rd"
        rw [addM_ff] at q
        have tb := top_bits okf okg
        have bb := bot_bits okf okg
        have bp := Int.mul_pos (ratB_pos p) (ratB_pos p2)
        refine iD (fun z1 => ?_) (fun z1 => ?_)
        · repeat walk_at "rd"
          refine w_fldI h2 T.l_Float T.n_top (flds_t _ _ _) ?_
          repeat walk_at "rd"
          refine w_eqI ?_
          repeat walk_at "rd"
          refine iD (fun z2 => ?_) (fun z2 => ?_)
          · rw [if_pos (show t = 0 ∧ u = 0 from ⟨z1, z2⟩)] at q
            repeat walk_at "rd"
            refine w_fldI h1 T.l_Float T.n_sign (flds_s _ _ _) ?_
            repeat walk_at "rd"
            refine w_fldI h2 T.l_Float T.n_sign (flds_s _ _ _) ?_
            repeat walk_at "rd"
            refine u_Float (.inl ⟨0, rfl, by decide, ?_, by rw [red_zero]; decide, rfl⟩) fun x H' s1 n1 k1 => ?_
            · obtain ⟨g1, _⟩ := okf
              obtain ⟨g2, _⟩ := okg
              show (if r > s then r else s) = 1 ∨ (if r > s then r else s) = -1
              split <;> assumption
            · rw [red_zero] at k1
              exact q x H' s1 k1
          · rw [if_neg (show ¬ (t = 0 ∧ u = 0) from fun z => z2 z.2)] at q
            repeat walk_at "rd"
            refine w_methI h1 (lk_rat _ _ _) ?_
            repeat walk_at "rd"
            refine ⟨a, s, t, p, rfl, hf, okf, fun q1 H1 s1 n1 e1 => ?_⟩
            repeat walk_at "rd"
            refine w_methI (s1 _ _ h2) (lk_rat _ _ _) ?_
            repeat walk_at "rd"
            refine ⟨b, r, u, p2, rfl, hg.same s1, okg, fun q2 H2 s2 n2 e2 => ?_⟩
            have e1 := s2 _ _ e1
            repeat walk_at "rd"
            refine w_ixT e1 (v := .int (ratT s t p)) rfl ?_
            repeat walk_at "rd"
            refine w_ixT e2 (v := .int (ratB p2)) rfl ?_
            refine w_I (cmulx (i := ratT s t p) (j := ratB p2) (by have := ratT_b okf; omega) (by have := ratB_b okg; omega)) ?_
            repeat walk_at "rd"
            refine w_ixT e2 (v := .int (ratT r u p2)) rfl ?_
            repeat walk_at "rd"
            refine w_ixT e1 (v := .int (ratB p)) rfl ?_
            refine w_I (cmulx (i := ratT r u p2) (j := ratB p) (by have := ratT_b okg; omega) (by have := ratB_b okf; omega)) ?_
            repeat walk_at "rd"
            refine ⟨_, rfl, ?_⟩
            repeat walk_at "rd"
            refine w_ixT e1 (v := .int (ratB p)) rfl ?_
            repeat walk_at "rd"
            refine w_ixT e2 (v := .int (ratB p2)) rfl ?_
            refine w_I (cmulx (i := ratB p) (j := ratB p2) (by have := ratB_b okf; omega) (by have := ratB_b okg; omega)) ?_
            repeat walk_at "rd"
            have es : (if decide (ratT s t p * ratB p2 + ratT r u p2 * ratB p < 0) = true then (-1 : Int) else 1) = if ratT s t p * ratB p2 + ratT r u p2 * ratB p < 0 then -1 else 1 := by simp only [decide_eq_true_eq]
            rw [es]
            exact ⟨_, _, _, rfl, sgn_pm _, abs_nn _, bp, by rw [bits_abs]; omega, by omega, fun x H' s3 n3 h3 => q x H' (s1.trans (s2.trans s3)) h3⟩
        · rw [if_neg (show ¬ (t = 0 ∧ u = 0) from fun z => z1 z.1)] at q
          repeat walk_at "rd"
          refine w_methI h1 (lk_rat _ _ _) ?_
          repeat walk_at "rd"
          refine ⟨a, s, t, p, rfl, hf, okf, fun q1 H1 s1 n1 e1 => ?_⟩
          repeat walk_at "rd"
          refine w_methI (s1 _ _ h2) (lk_rat _ _ _) ?_
          repeat walk_at "rd"
          refine ⟨b, r, u, p2, rfl, hg.same s1, okg, fun q2 H2 s2 n2 e2 => ?_⟩
          have e1 := s2 _ _ e1
          repeat walk_at "rd"
          refine w_ixT e1 (v := .int (ratT s t p)) rfl ?_
          repeat walk_at "rd"
          refine w_ixT e2 (v := .int (ratB p2)) rfl ?_
          refine w_I (cmulx (i := ratT s t p) (j := ratB p2) (by have := ratT_b okf; omega) (by have := ratB_b okg; omega)) ?_
          repeat walk_at "rd"
          refine w_ixT e2 (v := .int (ratT r u p2)) rfl ?_
          repeat walk_at "rd"
          refine w_ixT e1 (v := .int (ratB p)) rfl ?_
          refine w_I (cmulx (i := ratT r u p2) (j := ratB p) (by have := ratT_b okg; omega) (by have := ratB_b okf; omega)) ?_
          repeat walk_at "rd"
          refine ⟨_, rfl, ?_⟩
          repeat walk_at "rd"
          refine w_ixT e1 (v := .int (ratB p)) rfl ?_
          repeat walk_at "rd"
          refine w_ixT e2 (v := .int (ratB p2)) rfl ?_
          refine w_I (cmulx (i := ratB p) (j := ratB p2) (by have := ratB_b okf; omega) (by have := ratB_b okg; omega)) ?_
          repeat walk_at "rd"
          have es : (if decide (ratT s t p * ratB p2 + ratT r u p2 * ratB p < 0) = true then (-1 : Int) else 1) = if ratT s t p * ratB p2 + ratT r u p2 * ratB p < 0 then -1 else 1 := by simp only [decide_eq_true_eq]
          rw [es]
          exact ⟨_, _, _, rfl, sgn_pm _, abs_nn _, bp, by rw [bits_abs]; omega, by omega, fun x H' s3 n3 h3 => q x H' (s1.trans (s2.trans s3)) h3⟩
end
end Nu

set_option Elab.async false
set_option linter.all false
set_option maxRecDepth 100000
set_option autoImplicit false
set_option maxHeartbeats 4000000
namespace Nu
open PySem PySem.Spec PyProof.Rows L2 Rd
local macro_rules | `(tactic| walk_at "hp") => `(tactic| first | assumption | (refine same_get ?sm ?_; (case sm => assumption); walk_at "hp"))
local macro_rules | `(tactic| walk_at "rd") => `(tactic| first
  | with_reducible refine w_nx ?_
  | with_reducible refine w_rt ?_
  | with_reducible refine w_bk ?_
  | with_reducible refine w_ct ?_
  | with_reducible refine w_seq ?_
  | with_reducible refine w_next ?_
  | with_reducible refine w_ret ?_
  | with_reducible refine w_ifS ?_
  | with_reducible refine w_asg ?_
  | with_reducible refine w_name ?_
  | with_reducible refine w_par ?_
  | with_reducible refine w_parI ?_
  | with_reducible refine w_ii ?_
  | with_reducible refine w_i1 ?_
  | with_reducible refine w_drop ?_
  | with_reducible refine w_sFld ?_
  | ((with_reducible refine' w_var ?rdh ?_); (case rdh => exact rfl))
  | with_reducible refine w_c ?_
  | with_reducible refine w_op ?_
  | with_reducible refine w_un ?_
  | with_reducible refine w_I0 ?_
  | with_reducible refine w_U ?_
  | with_reducible refine w_bits ?_
  | with_reducible refine w_bitsI ?_
  | with_reducible refine w_tup ?_
  | with_reducible refine w_lst ?_
  | with_reducible refine w_nil ?_
  | with_reducible refine w_cons ?_
  | with_reducible refine w_fld ?_
  | with_reducible refine w_call ?_
  | with_reducible refine w_make ?_
  | with_reducible refine w_gsub ?_
  | with_reducible refine w_int1 ?_
  | with_reducible refine w_intB ?_
  | with_reducible refine w_for ?_
  | with_reducible refine w_rng1 ?_
  | with_reducible refine w_iList ?_
  | with_reducible refine w_iTup ?_
  | with_reducible refine w_makeD ?_
  | with_reducible refine w_nn ?_
  | with_reducible refine w_subB ?_
  | with_reducible refine w_meth ?_
  | with_reducible refine w_cb ?_
  | with_reducible refine w_test ?_
  | with_reducible refine w_B ?_
  | with_reducible refine w_bl ?_
  | with_reducible refine w_andV ?_
  | with_reducible refine w_orV ?_
  | with_reducible refine w_notV ?_
  | with_reducible refine w_and ?_
  | with_reducible refine w_or ?_
  | with_reducible refine w_not ?_
  | with_reducible refine w_if ?_
  | with_reducible refine w_gnil ?_
  | with_reducible refine w_gcons ?_
  | with_reducible refine iT ?_
  | with_reducible refine iF ?_
  | with_reducible refine w_eqI ?_
  | with_reducible refine w_neI ?_
  | with_reducible refine w_eqS ?_
  | with_reducible refine w_eqIS ?_
  | with_reducible refine w_eqSI ?_)

section
variable {P : Program} {w : World} {K : PySem.W.Frag} {mg : Str → Option Value} {base : Heap} {CF : Addr}
/-! ### == of floats -/
def fdat : V → PyData
  | .int t => .int t
  | .str x => .str x
  | _ => .none
def fall (f : Fl) : PyData := .tuple [.int f.s, fdat f.t, .int f.p]
def feq (f g : Fl) : Bool := PyData.eqv (fall f) (fall g)
theorem feq_self (f : Fl) : feq f f = true := by
  cases f <;> simp [feq, fall, fdat, Fl.s, Fl.t, Fl.p, PyData.eqv, PyData.eqvAll]
theorem fdat_dp (f : Fl) (H : Hp) : Dp K H f.t (fdat f.t) := by
  cases f with
  | fin s t p => exact .int t
  | inf s => exact .str _
  | nan => exact .str _
theorem fall_dp {f : Fl} {H : Hp} {a : Addr} (h : H a = some (.tup [.int f.s, f.t, .int f.p])) : Dp K H (.ref a) (fall f) :=
  .tup (SqT.of h) (.cons (.int _) (.cons (fdat_dp f H) (.cons (.int _) .nil)))
theorem fall_shaped (f : Fl) : SeqAt.shaped (fall f) = true := by
  have e1 : PyData.canLay0 (.str "inf") = true := by decide +kernel
  have e2 : PyData.canLay0 (.str "nan") = true := by decide +kernel
  have e3 : ∀ i : Int, PyData.canLay0 (.int i) = true := fun i => by simp [PyData.canLay0]
  have e4 : ∀ a b c : PyData, PyData.canLay0 a = true → PyData.canLay0 b = true → PyData.canLay0 c = true → PyData.canLay0 (.tuple [a, b, c]) = true := fun a b c h1 h2 h3 => by simp [PyData.canLay0, PyData.canLayAll0, h1, h2, h3]
  have e5 : PyData.canLay0 (fall f) = true := by
    cases f with
    | fin s t p => exact e4 _ _ _ (e3 _) (e3 _) (e3 _)
    | inf s => exact e4 _ _ _ (e3 _) e1 (e3 _)
    | nan => exact e4 _ _ _ (e3 _) e2 (e3 _)
  have e6 : (fall f).depth ≤ 64 := by
    cases f <;> simp [fall, fdat, Fl.t, PyData.depth, PyData.depthAll]
  unfold SeqAt.shaped
  rw [e5, decide_eq_true e6]
  rfl
def spFEq (CF : Addr) : Sp := fun vs H Q _ => ∃ a b f g, vs = [.ref a, .ref b] ∧ FlAt CF H a f ∧ FlAt CF H b g ∧ ∀ H', Same H H' → Q (.bl (feq f g)) H'
theorem sc_Float_eq : FnScope ["self", "other"] ["self", "other"] (defScope s_Float_eq) := ⟨rfl, rfl, rfl, by decide +kernel, rfl, by decide +kernel, by decide +kernel⟩
theorem ok_eq (T : AllN K mg CF) : KnM P w K mg base CX0 1 CF "__eq__" ["self", "other"] (spFEq CF) := by
  refine T.x_eq.kn fun f fd F => ?_
  refine F.ok sc_Float_eq (fun vs H Q E h => ?_) (fun cdv A outer s H vs Q E hr h => ?_)
  · obtain ⟨a, b, f, g, rfl, _⟩ := h
    rfl
  · obtain ⟨a, b, f, g, rfl, hf, hg, q⟩ := h
    refine ⟨_, (pss_cons (ps_if (pt_not (pt_val (pe_callB call_isi (by rfl) T.b_isinstance boot_isinstance (pa_cons (pv 1) (pa_cons (pg "Float" T.g_Float (rref _)) pa_nil))))) (pss_one ps_never) pss_nil)
      (pss_one (ps_ret (pe_cmpR (op_eqD hr.units) (pe_tup (pa_cons (pe_fld (pv 0) rfl) (pa_cons (pe_fld (pv 0) rfl) (pa_cons (pe_fld (pv 0) rfl) pa_nil)))) (pe_tup (pa_cons (pe_fld (pv 1) rfl) (pa_cons (pe_fld (pv 1) rfl) (pa_cons (pe_fld (pv 1) rfl) pa_nil)))) (nomark _))))), ?_⟩
    obtain ⟨dx, h1⟩ := id hf
    obtain ⟨dy, h2⟩ := id hg
    obtain ⟨t, ty, i1, i2, i3, i4⟩ := says_fl T.toAll h2
    repeat walk_at "rd"
    refine w_isi (.own CF) ty i4 ?_
    repeat walk_at "rd"
    refine iF ?_
    repeat walk_at "rd"
    refine w_fldI h1 T.l_Float T.n_sign (flds_s _ _ _) ?_
    repeat walk_at "rd"
    refine w_fldI h1 T.l_Float T.n_top (flds_t _ _ _) ?_
    repeat walk_at "rd"
    refine w_fldI h1 T.l_Float T.n_power (flds_p _ _ _) ?_
    repeat walk_at "rd"
    refine w_tup3 fun a1 H1 s1 n1 e1 => ?_
    repeat walk_at "rd"
    refine w_fldI (s1 _ _ h2) T.l_Float T.n_sign (flds_s _ _ _) ?_
    repeat walk_at "rd"
    refine w_fldI (s1 _ _ h2) T.l_Float T.n_top (flds_t _ _ _) ?_
    repeat walk_at "rd"
    refine w_fldI (s1 _ _ h2) T.l_Float T.n_power (flds_p _ _ _) ?_
    repeat walk_at "rd"
    refine w_tup3 fun a2 H2 s2 n2 e2 => ?_
    exact w_eqD (fall_dp (s2 _ _ e1)) (fall_dp e2) (fall_shaped f) (fall_shaped g) (q H2 (s1.trans s2))
theorem u_eqF {a b : Addr} {f : Fl} {g : Bool → Bool} {H : Hp} {Q : VK} (ha : FlAt CF H a f) (hb : FlAt CF H b f) (q : ∀ H', Same H H' → Q (.bl (g true)) H') : rOwn CF g (spFEq CF) (.ref a) (.ref b) H Q := by
  obtain ⟨dx, h1⟩ := id ha
  obtain ⟨dy, h2⟩ := id hb
  exact w_own h1 h2 ⟨a, b, f, f, rfl, ha, hb, fun H' s => ⟨_, rfl, by rw [feq_self]; exact q H' s⟩⟩
end
end Nu

set_option Elab.async false
set_option linter.all false
set_option maxRecDepth 100000
set_option autoImplicit false
set_option maxHeartbeats 4000000
namespace Rd
theorem iA {c : Prop} [Decidable c] {A B : Prop} (h : A) (h2 : ¬ c → A → B) : if decide c = true then A else B := by
  by_cases k : c
  · rw [decide_eq_true k]; exact iT h
  · rw [decide_eq_false k]; exact iF (h2 k h)
theorem iAb {c : Bool} {A B : Prop} (h : A) (h2 : c = false → A → B) : if c = true then A else B := by
  cases c with
  | true => exact iT h
  | false => exact iF (h2 rfl h)
end Rd
namespace Nu
open PySem PySem.Spec PyProof.Rows L2 Rd
local macro_rules | `(tactic| walk_at "hp") => `(tactic| first | assumption | (refine same_get ?sm ?_; (case sm => assumption); walk_at "hp"))
local macro_rules | `(tactic| walk_at "rd") => `(tactic| first
  | with_reducible refine w_nx ?_
  | with_reducible refine w_rt ?_
  | with_reducible refine w_bk ?_
  | with_reducible refine w_ct ?_
  | with_reducible refine w_seq ?_
  | with_reducible refine w_next ?_
  | with_reducible refine w_ret ?_
  | with_reducible refine w_ifS ?_
  | with_reducible refine w_asg ?_
  | with_reducible refine w_name ?_
  | with_reducible refine w_par ?_
  | with_reducible refine w_parI ?_
  | with_reducible refine w_ii ?_
  | with_reducible refine w_i1 ?_
  | with_reducible refine w_drop ?_
  | with_reducible refine w_sFld ?_
  | ((with_reducible refine' w_var ?rdh ?_); (case rdh => exact rfl))
  | with_reducible refine w_c ?_
  | with_reducible refine w_op ?_
  | with_reducible refine w_un ?_
  | with_reducible refine w_I0 ?_
  | with_reducible refine w_U ?_
  | with_reducible refine w_bits ?_
  | with_reducible refine w_bitsI ?_
  | with_reducible refine w_tup ?_
  | with_reducible refine w_lst ?_
  | with_reducible refine w_nil ?_
  | with_reducible refine w_cons ?_
  | with_reducible refine w_fld ?_
  | with_reducible refine w_call ?_
  | with_reducible refine w_make ?_
  | with_reducible refine w_gsub ?_
  | with_reducible refine w_int1 ?_
  | with_reducible refine w_intB ?_
  | with_reducible refine w_for ?_
  | with_reducible refine w_rng1 ?_
  | with_reducible refine w_iList ?_
  | with_reducible refine w_iTup ?_
  | with_reducible refine w_makeD ?_
  | with_reducible refine w_nn ?_
  | with_reducible refine w_subB ?_
  | with_reducible refine w_meth ?_
  | with_reducible refine w_cb ?_
  | with_reducible refine w_test ?_
  | with_reducible refine w_B ?_
  | with_reducible refine w_bl ?_
  | with_reducible refine w_andV ?_
  | with_reducible refine w_orV ?_
  | with_reducible refine w_notV ?_
  | with_reducible refine w_and ?_
  | with_reducible refine w_or ?_
  | with_reducible refine w_not ?_
  | with_reducible refine w_if ?_
  | with_reducible refine w_gnil ?_
  | with_reducible refine w_gcons ?_
  | with_reducible refine iT ?_
  | with_reducible refine iF ?_
  | with_reducible refine w_eqI ?_
  | with_reducible refine w_neI ?_
  | with_reducible refine w_eqS ?_
  | with_reducible refine w_eqIS ?_
  | with_reducible refine w_eqSI ?_)

def isNan : Fl → Bool
  | .nan => true
  | _ => false
def isInf : Fl → Bool
  | .inf _ => true
  | _ => false
def isZero : Fl → Bool
  | .fin _ t _ => decide (t = 0)
  | _ => false
theorem Fl.flat (f : Fl) : flatV f.t = true := by cases f <;> rfl
theorem nan_in1 (f : Fl) : eqV f.t (.str "nan") = isNan f := by
  cases f with
  | fin s t p => rfl
  | inf s => show eqV (.str "inf") (.str "nan") = false; decide +kernel
  | nan => decide +kernel
theorem zero_in1 (f : Fl) : eqV f.t (.int 0) = isZero f := by
  cases f with
  | fin s t p => rfl
  | inf s => rfl
  | nan => rfl
theorem not_nan {f : Fl} (h : isNan f = false) : f ≠ .nan := fun e => by
  rw [e] at h
  cases h
theorem nan_no {f : Fl} (h : f ≠ .nan) : isNan f = false := by cases f <;> first | rfl | exact absurd rfl h
theorem is_fin {f : Fl} (h1 : isNan f = false) (h2 : isInf f = false) : ∃ s t p, f = .fin s t p := by
  cases f with
  | fin s t p => exact ⟨s, t, p, rfl⟩
  | inf s => cases h2
  | nan => cases h1
theorem w_inf {f : Fl} {H : Hp} {Q : VK} (q : Q (.bl (isInf f)) H) : rEq f.t (.str "inf") H Q := by
  cases f with
  | fin s t p => exact w_eqIS q
  | inf s => refine w_eqS ?_; rw [decide_eq_true rfl]; exact q
  | nan => refine w_eqS ?_; rw [decide_eq_false (by decide +kernel)]; exact q
theorem w_nan {f : Fl} {H : Hp} {Q : VK} (q : Q (.bl (isNan f)) H) : rEq f.t (.str "nan") H Q := by
  cases f with
  | fin s t p => exact w_eqIS q
  | nan => refine w_eqS ?_; rw [decide_eq_true rfl]; exact q
  | inf s => refine w_eqS ?_; rw [decide_eq_false (by decide +kernel)]; exact q
theorem w_zero {f : Fl} {H : Hp} {Q : VK} (q : Q (.bl (isZero f)) H) : rEq f.t (.int 0) H Q := by
  cases f with
  | fin s t p => exact w_eqI q
  | inf s => exact w_eqSI q
  | nan => exact w_eqSI q
theorem s_pm {f : Fl} (h : f.ok) : f.s = 1 ∨ f.s = -1 := by
  cases f with
  | fin s t p => exact h.1
  | inf s => exact h
  | nan => exact .inl rfl
theorem pm_mul {a b : Int} (h1 : a = 1 ∨ a = -1) (h2 : b = 1 ∨ b = -1) : a * b = 1 ∨ a * b = -1 := by
  rcases h1 with rfl | rfl <;> rcases h2 with rfl | rfl <;> decide
/-! ### what is reckoned -/
def absI (n : Int) : Int := if n < 0 then -n else n
def mulM (f g : Fl) : Fl := if (isNan f || isNan g) = true then .nan else if (isInf f || isInf g) = true then (if (isZero f || isZero g) = true then .nan else .inf (f.s * g.s)) else
  match f, g with
  | .fin s t p, .fin r u q => nearM (s * r) (absI (ratT s t p * ratT r u q)) (ratB p * ratB q)
  | _, _ => .nan
def divM (f g : Fl) : Fl := if (isNan f || isNan g) = true then .nan else if isInf f = true then (if isInf g = true then .nan else .inf (f.s * g.s)) else if isInf g = true then .fin (f.s * g.s) 0 0 else
  if isZero g = true then (if isZero f = true then .nan else .inf (f.s * g.s)) else
  match f, g with
  | .fin s t p, .fin r u q => nearM (s * r) (absI (ratT s t p * ratB q)) (absI (ratB p * ratT r u q))
  | _, _ => .nan
def negM : Fl → Fl
  | .nan => .nan
  | .inf s => .inf (0 - s)
  | .fin s t p => .fin (0 - s) t p
theorem neg_pm {s : Int} (h : s = 1 ∨ s = -1) : 0 - s = 1 ∨ 0 - s = -1 := by omega
theorem negM_ok {f : Fl} (h : f.ok) : (negM f).ok := by
  cases f with
  | nan => exact trivial
  | inf s => exact neg_pm h
  | fin s t p => exact ⟨neg_pm h.1, h.2⟩
theorem red_odd {t p : Int} (h0 : 0 ≤ t) (h : t % 2 = 1) : red t p = (t, p) := by
  obtain ⟨k, m, hm, e, r⟩ := red_spec (t := t) (by omega) p
  have k0 : k = 0 := by
    rcases Nat.eq_zero_or_pos k with z | z
    · exact z
    · obtain ⟨j, rfl⟩ : ∃ j, k = j + 1 := ⟨k - 1, by omega⟩
      rw [Int.pow_succ, Int.mul_assoc, Int.mul_left_comm] at e
      omega
  subst k0
  rw [r]
  simp at e ⊢
  omega
theorem red_ok {s t p : Int} (h : (Fl.fin s t p).ok) : red t p = (t, p) ∧ fitsB t p = true := by
  obtain ⟨_, t0, t1, hz, hn⟩ := h
  by_cases z : t = 0
  · subst z
    rw [hz rfl, red_zero]
    exact ⟨rfl, by decide⟩
  · obtain ⟨a, b, c⟩ := hn z
    refine ⟨red_odd t0 c, ?_⟩
    unfold fitsB
    rw [decide_eq_true t1, decide_eq_true a, decide_eq_true b]
    rfl
theorem negM_arg {f : Fl} (h : f.ok) (hn : f ≠ .nan) : Arg (0 - f.s) f.t f.p (negM f) := by
  cases f with
  | nan => exact absurd rfl hn
  | inf s => exact .inr (.inl ⟨rfl, rfl, neg_pm h, rfl⟩)
  | fin s t p =>
    obtain ⟨r, ft⟩ := red_ok h
    refine .inl ⟨t, rfl, h.2.1, neg_pm h.1, ?_, ?_⟩
    · show fitsB (red t p).1 (red t p).2 = true
      rw [r]; exact ft
    · show Fl.fin (0 - s) t p = .fin (0 - s) (red t p).1 (red t p).2
      rw [r]
theorem absI_nn (n : Int) : 0 ≤ absI n := abs_nn n
theorem absI_bits (n : Int) : bits (absI n) = bits n := bits_abs n
theorem ratT_ne {s t p : Int} (h : (Fl.fin s t p).ok) (ht : t ≠ 0) : ratT s t p ≠ 0 := by
  have h1 := h.1
  unfold ratT
  intro e
  split at e
  · rcases Int.mul_eq_zero.mp e with c | c <;> omega
  · rcases Int.mul_eq_zero.mp e with c | c
    · omega
    · rcases Int.mul_eq_zero.mp c with c | c
      · exact ht c
      · have := pow_pos2 p.toNat
        omega
theorem mulM_ok {f g : Fl} (hf : f.ok) (hg : g.ok) : (mulM f g).ok := by
  have pm := pm_mul (s_pm hf) (s_pm hg)
  unfold mulM
  split
  · exact trivial
  · split
    · split
      · exact trivial
      · exact pm
    · split
      · exact nearM_ok pm (absI_nn _) (Int.mul_pos (ratB_pos _) (ratB_pos _))
      · exact trivial
theorem div_pos {s t p r u q : Int} (hg : (Fl.fin r u q).ok) (hz : isZero (.fin r u q) = false) : 0 < absI (ratB p * ratT r u q) := by
  have h := absI_nn (ratB p * ratT r u q)
  have h2 : ratB p * ratT r u q ≠ 0 := fun e => by
    rcases Int.mul_eq_zero.mp e with c | c
    · have := ratB_pos p; omega
    · exact ratT_ne hg (of_decide_eq_false hz) c
  have : absI (ratB p * ratT r u q) ≠ 0 := by
    unfold absI
    split <;> omega
  omega
theorem divM_ok {f g : Fl} (hf : f.ok) (hg : g.ok) : (divM f g).ok := by
  have pm := pm_mul (s_pm hf) (s_pm hg)
  unfold divM
  split
  · exact trivial
  split
  · split
    · exact trivial
    · exact pm
  split
  · exact ⟨pm, by decide, by decide, fun _ => rfl, fun h => absurd rfl h⟩
  split
  · split
    · exact trivial
    · exact pm
  · rename_i z
    split
    · exact nearM_ok pm (absI_nn _) (div_pos (s := 0) (t := 0) hg (Bool.eq_false_iff.mpr z))
    · exact trivial
section
variable {P : Program} {w : World} {K : PySem.W.Frag} {mg : Str → Option Value} {base : Heap} {CF : Addr}
theorem u_nan {H : Hp} {Q : VK} {E : XK} (q : NewF CF .nan H Q) : spNan CF ([] ++ []) H Q E := ⟨rfl, q⟩
theorem u_inf {s : Int} {H : Hp} {Q : VK} {E : XK} (hs : s = 1 ∨ s = -1) (q : NewF CF (.inf s) H Q) : spInf CF ([V.int s] ++ []) H Q E := ⟨s, rfl, hs, q⟩
/-! ### products and quotients -/
def sp2 (CF : Addr) (m : Fl → Fl → Fl) : Sp := fun vs H Q _ => ∃ a b f g, vs = [.ref a, .ref b] ∧ FlAt CF H a f ∧ FlAt CF H b g ∧ f.ok ∧ g.ok ∧ f ≠ .nan ∧ g ≠ .nan ∧ ∀ x H', Same H H' → FlAt CF H' x (m f g) → Q (.ref x) H'
theorem sc_multiplied : FnScope ["one", "other", "sign", "first", "second"] ["one", "other"] (defScope s_multiplied) := ⟨rfl, rfl, rfl, by decide +kernel, rfl, by decide +kernel, by decide +kernel⟩
theorem ok_multiplied (T : AllN K mg CF) (k_nan : Kn P w K mg base CX0 4 "nan" [] (spNan CF)) (k_infinity : Kn P w K mg base CX0 4 "infinity" ["sign"] (spInf CF)) (k_Float_ratio : KnM P w K mg base CX0 1 CF "ratio" ["self"] (spRatio CF))
    (k_nearest : Kn P w K mg base CX0 5 "nearest" ["sign", "top", "bottom"] (spNear CF)) : Kn P w K mg base CX0 6 "multiplied" ["one", "other"] (sp2 CF mulM) := by
  refine T.x_multiplied.kn fun f fd F => ?_
  refine F.ok sc_multiplied (fun vs H Q E h => ?_) (fun cdv A outer s H vs Q E hr h => ?_)
  · obtain ⟨a, b, f, g, rfl, _⟩ := h
    rfl
  · obtain ⟨a, b, f, g, rfl, hf, hg, okf, okg, nf, ng, q⟩ := h
    refine ⟨_, (pss_cons (ps_set (i := 2) sc_multiplied.nd rfl (Or.inl rfl) (pe_op op_mulX (pe_fld (pv 0) rfl) (pe_fld (pv 1) rfl)))
      (pss_cons (ps_if (PW.pt (pw_or (pt_cmpR op_eq (pe_fld (pv 0) rfl) pe_str (nomark _)) (pw_or1 (pt_cmpR op_eq (pe_fld (pv 1) rfl) pe_str (nomark _))))) (pss_one (ps_ret (pe_ifExp (pt_cmpR op_in_seq pe_int (pe_tup (pa_cons (pe_fld (pv 0) rfl) (pa_cons (pe_fld (pv 1) rfl) pa_nil))) rfl) (pk0 k_nan hr) (pk k_infinity hr (pa_cons (pv 2) pa_nil))))) pss_nil)
      (pss_cons (ps_par (by rfl) sc_multiplied.nd (i := 3) (j := 4) rfl rfl (by decide) rfl rfl (pa_cons (pkM0 k_Float_ratio T.l_Float hr (pv 0) rfl) (pa_cons (pkM0 k_Float_ratio T.l_Float hr (pv 1) rfl) pa_nil)) (by rfl))
      (pss_one (ps_ret (pk k_nearest hr (pa_cons (pv 2) (pa_cons (pe_callB call_abs (by rfl) T.b_abs boot_abs (pa_cons (pe_op op_mulX (pe_ix ix_tup (pv 3) pe_int (fun _ _ => rfl)) (pe_ix ix_tup (pv 4) pe_int (fun _ _ => rfl))) pa_nil)) (pa_cons (pe_op op_mulX (pe_ix ix_tup (pv 3) pe_int (fun _ _ => rfl)) (pe_ix ix_tup (pv 4) pe_int (fun _ _ => rfl))) pa_nil))))))))), ?_⟩
    obtain ⟨dx, h1⟩ := id hf
    obtain ⟨dy, h2⟩ := id hg
    have pf := (s_pm okf)
    have pg := (s_pm okg)
    have hnn : (isNan f || isNan g) = false := by rw [nan_no nf, nan_no ng]; rfl
    repeat walk_at "rd"
    refine w_fldI h1 T.l_Float T.n_sign (flds_s _ _ _) ?_
    repeat walk_at "rd"
    refine w_fldI h2 T.l_Float T.n_sign (flds_s _ _ _) ?_
    refine w_I (cmulS (i := f.s) (j := g.s) (by omega) (by omega)) ?_
    repeat walk_at "rd"
    refine w_fldI h1 T.l_Float T.n_top (flds_t _ _ _) ?_
    repeat walk_at "rd"
    refine w_inf ?_
    repeat walk_at "rd"
    have far : (isInf f || isInf g) = true → ∀ (Q1 : VK), (∀ x H', Same H H' → FlAt CF H' x (mulM f g) → Q1 (.ref x) H') → tIf (tTest (tOp (rIn K false) (tC (.int 0)) (tTup (tCons (tFld K (tVar 0) "top") (tCons (tFld K (tVar 1) "top") tNil))))) (tCall (spNan CF) [] E0 tNil) (tCall (spInf CF) [] E0 (tCons (tVar 2) tNil)) [some (.ref a), some (.ref b), some (.int (f.s * g.s)), none, none] H Q1 := by
      intro hi Q1 q1
      repeat walk_at "rd"
      refine w_fldI h1 T.l_Float T.n_top (flds_t _ _ _) ?_
      repeat walk_at "rd"
      refine w_fldI h2 T.l_Float T.n_top (flds_t _ _ _) ?_
      repeat walk_at "rd"
      refine w_tup2 fun a1 H1 s1 n1 e1 => ?_
      refine w_in e1 rfl (by simp [Fl.flat]) ?_
      have ein : inV (.int 0) [f.t, g.t] = (isZero f || isZero g) := by
        unfold inV
        simp only [List.any_cons, List.any_nil, Bool.or_false, zero_in1]
      rw [ein]
      unfold mulM at q1
      rw [if_neg (by rw [hnn]; exact Bool.false_ne_true), if_pos hi] at q1
      repeat walk_at "rd"
      refine iB (fun z => ?_) (fun z => ?_)
      · rw [if_pos z] at q1
        repeat walk_at "rd"
        exact u_nan fun x H' s2 n2 k2 => q1 x H' (s1.trans s2) k2
      · rw [if_neg (by rw [z]; exact Bool.false_ne_true)] at q1
        repeat walk_at "rd"
        exact u_inf (pm_mul pf pg) fun x H' s2 n2 k2 => q1 x H' (s1.trans s2) k2
    refine iB (fun z => ?_) (fun z => ?_)
    · refine iT ?_
      exact far (by rw [z]; rfl) _ q
    · repeat walk_at "rd"
      refine w_fldI h2 T.l_Float T.n_top (flds_t _ _ _) ?_
      repeat walk_at "rd"
      refine w_inf ?_
      repeat walk_at "rd"
      refine iB (fun z2 => ?_) (fun z2 => ?_)
      · exact far (by rw [z2, Bool.or_true]) _ q
      · clear far
        obtain ⟨s, t, p, rfl⟩ := is_fin (nan_no nf) z
        obtain ⟨r, u, p2, rfl⟩ := is_fin (nan_no ng) z2
        repeat walk_at "rd"
        refine w_methI h1 (lk_rat _ _ _) ?_
        repeat walk_at "rd"
        refine ⟨a, s, t, p, rfl, hf, okf, fun q1 H1 s1 n1 e1 => ?_⟩
        repeat walk_at "rd"
        refine w_methI (s1 _ _ h2) (lk_rat _ _ _) ?_
        repeat walk_at "rd"
        refine ⟨b, r, u, p2, rfl, hg.same s1, okg, fun q2 H2 s2 n2 e2 => ?_⟩
        have e1 := s2 _ _ e1
        have T1 := ratT_b okf
        have T2 := ratT_b okg
        have B1 := ratB_b okf
        have B2 := ratB_b okg
        repeat walk_at "rd"
        refine w_ixT e1 (v := .int (ratT s t p)) rfl ?_
        repeat walk_at "rd"
        refine w_ixT e2 (v := .int (ratT r u p2)) rfl ?_
        refine w_I (cmulx (i := ratT s t p) (j := ratT r u p2) (by omega) (by omega)) ?_
        repeat walk_at "rd"
        refine w_ixT e1 (v := .int (ratB p)) rfl ?_
        repeat walk_at "rd"
        refine w_ixT e2 (v := .int (ratB p2)) rfl ?_
        refine w_I (cmulx (i := ratB p) (j := ratB p2) (by omega) (by omega)) ?_
        repeat walk_at "rd"
        have b1 := bits_mul (ratT s t p) (ratT r u p2)
        have b2 := bits_mul (ratB p) (ratB p2)
        exact ⟨_, _, _, rfl, pm_mul pf pg, absI_nn _, Int.mul_pos (ratB_pos _) (ratB_pos _), by rw [bits_abs]; omega, by omega, fun x H' s3 n3 h3 => q x H' (s1.trans (s2.trans s3)) h3⟩
theorem sc_divided : FnScope ["one", "other", "sign", "first", "second"] ["one", "other"] (defScope s_divided) := ⟨rfl, rfl, rfl, by decide +kernel, rfl, by decide +kernel, by decide +kernel⟩
theorem ok_divided (T : AllN K mg CF) (k_nan : Kn P w K mg base CX0 4 "nan" [] (spNan CF)) (k_infinity : Kn P w K mg base CX0 4 "infinity" ["sign"] (spInf CF)) (k_Float_ratio : KnM P w K mg base CX0 1 CF "ratio" ["self"] (spRatio CF)) (k_Float_init : KnC P w K mg base CX0 2 "Float" CF ["self", "sign", "top", "power"] (spInit CF))
    (k_nearest : Kn P w K mg base CX0 5 "nearest" ["sign", "top", "bottom"] (spNear CF)) : Kn P w K mg base CX0 6 "divided" ["one", "other"] (sp2 CF divM) := by
  refine T.x_divided.kn fun f fd F => ?_
  refine F.ok sc_divided (fun vs H Q E h => ?_) (fun cdv A outer s H vs Q E hr h => ?_)
  · obtain ⟨a, b, f, g, rfl, _⟩ := h
    rfl
  · obtain ⟨a, b, f, g, rfl, hf, hg, okf, okg, nf, ng, q⟩ := h
    refine ⟨_, (pss_cons (ps_set (i := 2) sc_divided.nd rfl (Or.inl rfl) (pe_op op_mulX (pe_fld (pv 0) rfl) (pe_fld (pv 1) rfl)))
      (pss_cons (ps_if (pt_cmpR op_eq (pe_fld (pv 0) rfl) pe_str (nomark _)) (pss_one (ps_ret (pe_ifExp (pt_cmpR op_eq (pe_fld (pv 1) rfl) pe_str (nomark _)) (pk0 k_nan hr) (pk k_infinity hr (pa_cons (pv 2) pa_nil))))) pss_nil)
      (pss_cons (ps_if (pt_cmpR op_eq (pe_fld (pv 1) rfl) pe_str (nomark _)) (pss_one (ps_ret (pkC k_Float_init hr (pa_cons (pv 2) (pa_cons pe_int (pa_cons pe_int pa_nil)))))) pss_nil)
      (pss_cons (ps_if (pt_cmpR op_eq (pe_fld (pv 1) rfl) pe_int (nomark _)) (pss_one (ps_ret (pe_ifExp (pt_cmpR op_eq (pe_fld (pv 0) rfl) pe_int (nomark _)) (pk0 k_nan hr) (pk k_infinity hr (pa_cons (pv 2) pa_nil))))) pss_nil)
      (pss_cons (ps_par (by rfl) sc_divided.nd (i := 3) (j := 4) rfl rfl (by decide) rfl rfl (pa_cons (pkM0 k_Float_ratio T.l_Float hr (pv 0) rfl) (pa_cons (pkM0 k_Float_ratio T.l_Float hr (pv 1) rfl) pa_nil)) (by rfl))
      (pss_one (ps_ret (pk k_nearest hr (pa_cons (pv 2) (pa_cons (pe_callB call_abs (by rfl) T.b_abs boot_abs (pa_cons (pe_op op_mulX (pe_ix ix_tup (pv 3) pe_int (fun _ _ => rfl)) (pe_ix ix_tup (pv 4) pe_int (fun _ _ => rfl))) pa_nil)) (pa_cons (pe_callB call_abs (by rfl) T.b_abs boot_abs (pa_cons (pe_op op_mulX (pe_ix ix_tup (pv 3) pe_int (fun _ _ => rfl)) (pe_ix ix_tup (pv 4) pe_int (fun _ _ => rfl))) pa_nil)) pa_nil))))))))))), ?_⟩
    obtain ⟨dx, h1⟩ := id hf
    obtain ⟨dy, h2⟩ := id hg
    have pf := (s_pm okf)
    have pg := (s_pm okg)
    have hnn : (isNan f || isNan g) = false := by rw [nan_no nf, nan_no ng]; rfl
    unfold divM at q
    rw [if_neg (by rw [hnn]; exact Bool.false_ne_true)] at q
    repeat walk_at "rd"
    refine w_fldI h1 T.l_Float T.n_sign (flds_s _ _ _) ?_
    repeat walk_at "rd"
    refine w_fldI h2 T.l_Float T.n_sign (flds_s _ _ _) ?_
    refine w_I (cmulS (i := f.s) (j := g.s) (by omega) (by omega)) ?_
    repeat walk_at "rd"
    refine w_fldI h1 T.l_Float T.n_top (flds_t _ _ _) ?_
    repeat walk_at "rd"
    refine w_inf ?_
    repeat walk_at "rd"
    refine iB (fun z => ?_) (fun z => ?_)
    · rw [if_pos z] at q
      repeat walk_at "rd"
      refine w_fldI h2 T.l_Float T.n_top (flds_t _ _ _) ?_
      repeat walk_at "rd"
      refine w_inf ?_
      repeat walk_at "rd"
      refine iB (fun z2 => ?_) (fun z2 => ?_)
      · rw [if_pos z2] at q
        repeat walk_at "rd"
        exact u_nan fun x H' s2 n2 k2 => q x H' s2 k2
      · rw [if_neg (by rw [z2]; exact Bool.false_ne_true)] at q
        repeat walk_at "rd"
        exact u_inf (pm_mul pf pg) fun x H' s2 n2 k2 => q x H' s2 k2
    · rw [if_neg (by rw [z]; exact Bool.false_ne_true)] at q
      repeat walk_at "rd"
      refine w_fldI h2 T.l_Float T.n_top (flds_t _ _ _) ?_
      repeat walk_at "rd"
      refine w_inf ?_
      repeat walk_at "rd"
      refine iB (fun z2 => ?_) (fun z2 => ?_)
      · rw [if_pos z2] at q
        repeat walk_at "rd"
        refine u_Float (.inl ⟨0, rfl, by decide, pm_mul pf pg, by rw [red_zero]; decide, rfl⟩) fun x H' s1 n1 k1 => ?_
        rw [red_zero] at k1
        exact q x H' s1 k1
      · rw [if_neg (by rw [z2]; exact Bool.false_ne_true)] at q
        repeat walk_at "rd"
        refine w_fldI h2 T.l_Float T.n_top (flds_t _ _ _) ?_
        repeat walk_at "rd"
        refine w_zero ?_
        repeat walk_at "rd"
        refine iB (fun z3 => ?_) (fun z3 => ?_)
        · rw [if_pos z3] at q
          repeat walk_at "rd"
          refine w_fldI h1 T.l_Float T.n_top (flds_t _ _ _) ?_
          repeat walk_at "rd"
          refine w_zero ?_
          repeat walk_at "rd"
          refine iB (fun z4 => ?_) (fun z4 => ?_)
          · rw [if_pos z4] at q
            repeat walk_at "rd"
            exact u_nan fun x H' s2 n2 k2 => q x H' s2 k2
          · rw [if_neg (by rw [z4]; exact Bool.false_ne_true)] at q
            repeat walk_at "rd"
            exact u_inf (pm_mul pf pg) fun x H' s2 n2 k2 => q x H' s2 k2
        · rw [if_neg (by rw [z3]; exact Bool.false_ne_true)] at q
          obtain ⟨s, t, p, rfl⟩ := is_fin (nan_no nf) z
          obtain ⟨r, u, p2, rfl⟩ := is_fin (nan_no ng) z2
          repeat walk_at "rd"
          refine w_methI h1 (lk_rat _ _ _) ?_
          repeat walk_at "rd"
          refine ⟨a, s, t, p, rfl, hf, okf, fun q1 H1 s1 n1 e1 => ?_⟩
          repeat walk_at "rd"
          refine w_methI (s1 _ _ h2) (lk_rat _ _ _) ?_
          repeat walk_at "rd"
          refine ⟨b, r, u, p2, rfl, hg.same s1, okg, fun q2 H2 s2 n2 e2 => ?_⟩
          have e1 := s2 _ _ e1
          have T1 := ratT_b okf
          have T2 := ratT_b okg
          have B1 := ratB_b okf
          have B2 := ratB_b okg
          repeat walk_at "rd"
          refine w_ixT e1 (v := .int (ratT s t p)) rfl ?_
          repeat walk_at "rd"
          refine w_ixT e2 (v := .int (ratB p2)) rfl ?_
          refine w_I (cmulx (i := ratT s t p) (j := ratB p2) (by omega) (by omega)) ?_
          repeat walk_at "rd"
          refine w_ixT e1 (v := .int (ratB p)) rfl ?_
          repeat walk_at "rd"
          refine w_ixT e2 (v := .int (ratT r u p2)) rfl ?_
          refine w_I (cmulx (i := ratB p) (j := ratT r u p2) (by omega) (by omega)) ?_
          repeat walk_at "rd"
          have b1 := bits_mul (ratT s t p) (ratB p2)
          have b2 := bits_mul (ratB p) (ratT r u p2)
          exact ⟨_, _, _, rfl, pm_mul pf pg, absI_nn _, div_pos (s := 0) (t := 0) okg z3, by rw [bits_abs]; omega, by rw [bits_abs]; omega, fun x H' s3 n3 h3 => q x H' (s1.trans (s2.trans s3)) h3⟩
end
end Nu

set_option Elab.async false
set_option linter.all false
set_option maxRecDepth 100000
set_option autoImplicit false
set_option maxHeartbeats 4000000
namespace Nu
open PySem PySem.Spec PyProof.Rows L2 Rd
local macro_rules | `(tactic| walk_at "hp") => `(tactic| first | assumption | (refine same_get ?sm ?_; (case sm => assumption); walk_at "hp"))
local macro_rules | `(tactic| walk_at "rd") => `(tactic| first
  | with_reducible refine w_nx ?_
  | with_reducible refine w_rt ?_
  | with_reducible refine w_bk ?_
  | with_reducible refine w_ct ?_
  | with_reducible refine w_seq ?_
  | with_reducible refine w_next ?_
  | with_reducible refine w_ret ?_
  | with_reducible refine w_ifS ?_
  | with_reducible refine w_asg ?_
  | with_reducible refine w_name ?_
  | with_reducible refine w_par ?_
  | with_reducible refine w_parI ?_
  | with_reducible refine w_ii ?_
  | with_reducible refine w_i1 ?_
  | with_reducible refine w_drop ?_
  | with_reducible refine w_sFld ?_
  | ((with_reducible refine' w_var ?rdh ?_); (case rdh => exact rfl))
  | with_reducible refine w_c ?_
  | with_reducible refine w_op ?_
  | with_reducible refine w_un ?_
  | with_reducible refine w_I0 ?_
  | with_reducible refine w_U ?_
  | with_reducible refine w_bits ?_
  | with_reducible refine w_bitsI ?_
  | with_reducible refine w_tup ?_
  | with_reducible refine w_lst ?_
  | with_reducible refine w_nil ?_
  | with_reducible refine w_cons ?_
  | with_reducible refine w_fld ?_
  | with_reducible refine w_call ?_
  | with_reducible refine w_make ?_
  | with_reducible refine w_gsub ?_
  | with_reducible refine w_int1 ?_
  | with_reducible refine w_intB ?_
  | with_reducible refine w_for ?_
  | with_reducible refine w_rng1 ?_
  | with_reducible refine w_iList ?_
  | with_reducible refine w_iTup ?_
  | with_reducible refine w_makeD ?_
  | with_reducible refine w_nn ?_
  | with_reducible refine w_subB ?_
  | with_reducible refine w_meth ?_
  | with_reducible refine w_cb ?_
  | with_reducible refine w_test ?_
  | with_reducible refine w_B ?_
  | with_reducible refine w_bl ?_
  | with_reducible refine w_andV ?_
  | with_reducible refine w_orV ?_
  | with_reducible refine w_notV ?_
  | with_reducible refine w_and ?_
  | with_reducible refine w_or ?_
  | with_reducible refine w_not ?_
  | with_reducible refine w_if ?_
  | with_reducible refine w_gnil ?_
  | with_reducible refine w_gcons ?_
  | with_reducible refine iT ?_
  | with_reducible refine iF ?_
  | with_reducible refine w_eqI ?_
  | with_reducible refine w_neI ?_
  | with_reducible refine w_eqS ?_
  | with_reducible refine w_eqIS ?_
  | with_reducible refine w_eqSI ?_)

/-! ### what an operator makes of two floats -/
def ariM (w : Str) (f g : Fl) : Fl := if (isNan f || isNan g) = true then .nan else if w = "add" then addM f g else if w = "sub" then addM f (negM g) else if w = "mul" then mulM f g else divM f g
def Four (w : Str) : Prop := w = "add" ∨ w = "sub" ∨ w = "mul" ∨ w = "div"
theorem four_in {w : Str} (h : Four w) : inV (.str w) [.str "band", .str "bor", .str "bxor", .str "shl", .str "shr"] = false := by
  rcases h with rfl | rfl | rfl | rfl <;> decide +kernel
theorem negM_nan {f : Fl} (h : f ≠ .nan) : negM f ≠ .nan := by cases f <;> intro e <;> first | exact h rfl | cases e
theorem ariM_ok {w : Str} {f g : Fl} (hf : f.ok) (hg : g.ok) : (ariM w f g).ok := by
  unfold ariM
  split
  · exact trivial
  split
  · exact addM_ok hf hg
  split
  · exact addM_ok hf (negM_ok hg)
  split
  · exact mulM_ok hf hg
  · exact divM_ok hf hg
def toF : Nm → Fl
  | .int i => nearM (if i < 0 then -1 else 1) (if i < 0 then -i else i) 1
  | .fl f => f
def isFl : Nm → Bool
  | .int _ => false
  | .fl _ => true
section
variable {P : Program} {w : World} {K : PySem.W.Frag} {mg : Str → Option Value} {base : Heap} {CF : Addr}
def spBy (CF : Addr) : Sp := fun vs H Q _ => ∃ wd a b f g, vs = [.str wd, .ref a, .ref b] ∧ Four wd ∧ FlAt CF H a f ∧ FlAt CF H b g ∧ f.ok ∧ g.ok ∧ ∀ x H', Same H H' → FlAt CF H' x (ariM wd f g) → Q (.ref x) H'
theorem sc_by_floats : FnScope ["word", "one", "other", "found"] ["word", "one", "other"] (defScope s_by_floats) := ⟨rfl, rfl, rfl, by decide +kernel, rfl, by decide +kernel, by decide +kernel⟩
theorem ok_by_floats (T : AllN K mg CF) (k_nan : Kn P w K mg base CX0 4 "nan" [] (spNan CF)) (k_added : Kn P w K mg base CX0 6 "added" ["one", "other"] (spAdded CF)) (k_multiplied : Kn P w K mg base CX0 6 "multiplied" ["one", "other"] (sp2 CF mulM)) (k_divided : Kn P w K mg base CX0 6 "divided" ["one", "other"] (sp2 CF divM))
    (k_Float_init : KnC P w K mg base CX0 2 "Float" CF ["self", "sign", "top", "power"] (spInit CF)) : Kn P w K mg base CX0 7 "by_floats" ["word", "one", "other"] (spBy CF) := by
  refine T.x_by_floats.kn fun f fd F => ?_
  refine F.ok sc_by_floats (fun vs H Q E h => ?_) (fun cdv A outer s H vs Q E hr h => ?_)
  · obtain ⟨wd, a, b, f, g, rfl, _⟩ := h
    rfl
  · obtain ⟨wd, a, b, f, g, rfl, h4, hf, hg, okf, okg, q⟩ := h
    refine ⟨_, (pss_cons (ps_if (pt_cmpR op_in_seq pe_str (pe_tup (pa_cons (pe_fld (pv 1) rfl) (pa_cons (pe_fld (pv 2) rfl) pa_nil))) rfl) (pss_one (ps_ret (pk0 k_nan hr))) pss_nil)
      (pss_cons (ps_if (pt_cmpR op_eq (pv 0) pe_str (nomark _)) (pss_one (ps_ret (pk k_added hr (pa_cons (pv 1) (pa_cons (pv 2) pa_nil))))) pss_nil)
      (pss_cons (ps_if (pt_cmpR op_eq (pv 0) pe_str (nomark _)) (pss_one (ps_ret (pk k_added hr (pa_cons (pv 1) (pa_cons (pkC k_Float_init hr (pa_cons (pe_op op_sub pe_int (pe_fld (pv 2) rfl)) (pa_cons (pe_fld (pv 2) rfl) (pa_cons (pe_fld (pv 2) rfl) pa_nil)))) pa_nil))))) pss_nil)
      (pss_cons (ps_if (pt_cmpR op_eq (pv 0) pe_str (nomark _)) (pss_one (ps_ret (pk k_multiplied hr (pa_cons (pv 1) (pa_cons (pv 2) pa_nil))))) pss_nil)
      (pss_cons (ps_if (pt_cmpR op_eq (pv 0) pe_str (nomark _)) (pss_one ps_never) pss_nil)
      (pss_cons (ps_set (i := 3) sc_by_floats.nd rfl (Or.inl rfl) (pk k_divided hr (pa_cons (pv 1) (pa_cons (pv 2) pa_nil))))
      (pss_one (ps_ret (pe_ifExp (pt_cmpR op_eq (pv 0) pe_str (nomark _)) pe_nev (pv 3)))))))))), ?_⟩
    obtain ⟨dx, h1⟩ := id hf
    obtain ⟨dy, h2⟩ := id hg
    repeat walk_at "rd"
    refine w_fldI h1 T.l_Float T.n_top (flds_t _ _ _) ?_
    repeat walk_at "rd"
    refine w_fldI h2 T.l_Float T.n_top (flds_t _ _ _) ?_
    repeat walk_at "rd"
    refine w_tup2 fun a1 H1 s1 n1 e1 => ?_
    refine w_in e1 rfl (by simp [Fl.flat]) ?_
    have ein : inV (.str "nan") [f.t, g.t] = (isNan f || isNan g) := by
      unfold inV
      simp only [List.any_cons, List.any_nil, Bool.or_false, nan_in1]
    rw [ein]
    unfold ariM at q
    repeat walk_at "rd"
    refine iB (fun z => ?_) (fun z => ?_)
    · rw [if_pos z] at q
      repeat walk_at "rd"
      exact u_nan fun x H' s2 n2 h2 => q x H' (s1.trans s2) h2
    · rw [if_neg (by rw [z]; exact Bool.false_ne_true)] at q
      rw [Bool.or_eq_false_iff] at z
      repeat walk_at "rd"
      refine iD (fun c => ?_) (fun c => ?_)
      · rw [if_pos c] at q
        repeat walk_at "rd"
        exact ⟨a, b, f, g, rfl, hf.same s1, hg.same s1, okf, okg, not_nan z.1, not_nan z.2, fun x H' s2 h2 => q x H' (s1.trans s2) h2⟩
      rw [if_neg c] at q
      repeat walk_at "rd"
      refine iD (fun c2 => ?_) (fun c2 => ?_)
      · rw [if_pos c2] at q
        repeat walk_at "rd"
        refine w_fldI (s1 _ _ h2) T.l_Float T.n_sign (flds_s _ _ _) ?_
        repeat walk_at "rd"
        refine w_fldI (s1 _ _ h2) T.l_Float T.n_top (flds_t _ _ _) ?_
        repeat walk_at "rd"
        refine w_fldI (s1 _ _ h2) T.l_Float T.n_power (flds_p _ _ _) ?_
        repeat walk_at "rd"
        refine u_Float (negM_arg okg (not_nan z.2)) fun x2 H2 s2 n2 k2 => ?_
        repeat walk_at "rd"
        exact ⟨a, x2, f, negM g, rfl, hf.same (s1.trans s2), k2, okf, negM_ok okg, not_nan z.1, negM_nan (not_nan z.2), fun x H' s3 h3 => q x H' (s1.trans (s2.trans s3)) h3⟩
      rw [if_neg c2] at q
      repeat walk_at "rd"
      refine iD (fun c3 => ?_) (fun c3 => ?_)
      · rw [if_pos c3] at q
        repeat walk_at "rd"
        exact ⟨a, b, f, g, rfl, hf.same s1, hg.same s1, okf, okg, not_nan z.1, not_nan z.2, fun x H' s2 h2 => q x H' (s1.trans s2) h2⟩
      rw [if_neg c3] at q
      have c4 : wd = "div" := by
        rcases h4 with h | h | h | h
        · exact absurd h c
        · exact absurd h c2
        · exact absurd h c3
        · exact h
      subst c4
      repeat walk_at "rd"
      refine iD (fun c4 => absurd c4 (by decide +kernel)) (fun _ => ?_)
      repeat walk_at "rd"
      refine ⟨a, b, f, g, rfl, hf.same s1, hg.same s1, okf, okg, not_nan z.1, not_nan z.2, fun x H' s2 h2 => ?_⟩
      repeat walk_at "rd"
      refine iD (fun c4 => absurd c4 (by decide +kernel)) (fun _ => ?_)
      repeat walk_at "rd"
      exact q x H' (s1.trans s2) h2
theorem u_by {wd : Str} {a b : Addr} {f g : Fl} {H : Hp} {Q : VK} {E : XK} (h4 : Four wd) (hf : FlAt CF H a f) (hg : FlAt CF H b g) (okf : f.ok) (okg : g.ok) (q : ∀ x H', Same H H' → FlAt CF H' x (ariM wd f g) → Q (.ref x) H') : spBy CF ([V.str wd, V.ref a, V.ref b] ++ []) H Q E :=
  ⟨wd, a, b, f, g, rfl, h4, hf, hg, okf, okg, q⟩
theorem u_toF {x : V} {n : Nm} {H : Hp} {Q : VK} {E : XK} (h : NmAt CF H x n) (q : ∀ a H', Same H H' → FlAt CF H' a (toF n) → (toF n).ok → Q (.ref a) H') : spToF K CF ([x] ++ []) H Q E := by
  cases n with
  | int i =>
    obtain ⟨rfl, hb⟩ := h
    exact .inr ⟨i, rfl, by omega, fun x H' s1 n1 h1 => q x H' s1 h1 (nearM_ok (sgn_pm i) (abs_nn i) (by decide))⟩
  | fl f =>
    obtain ⟨a, rfl, h, ok⟩ := h
    exact .inl ⟨a, f, rfl, h, q a H (Same.refl H) h ok⟩
/-- arith by floats -/
def spAri (CF : Addr) : Sp := fun vs H Q _ => ∃ wd x y n m, vs = [.str wd, x, y] ∧ Four wd ∧ (wd = "div" ∨ isFl n = true ∨ isFl m = true) ∧ NmAt CF H x n ∧ NmAt CF H y m ∧ ∀ a H', Same H H' → FlAt CF H' a (ariM wd (toF n) (toF m)) → Q (.ref a) H'
theorem sc_arith : FnScope ["word", "one", "other"] ["word", "one", "other"] (defScope s_arith) := ⟨rfl, rfl, rfl, by decide +kernel, rfl, by decide +kernel, by decide +kernel⟩
theorem ok_arith (T : AllN K mg CF) (k_by_floats : Kn P w K mg base CX0 7 "by_floats" ["word", "one", "other"] (spBy CF)) (k_to_float : Kn P w K mg base CX0 6 "to_float" ["number"] (spToF K CF)) : Kn P w K mg base CX0 8 "arith" ["word", "one", "other"] (spAri CF) := by
  refine T.x_arith.kn fun f fd F => ?_
  refine F.ok sc_arith (fun vs H Q E h => ?_) (fun cdv A outer s H vs Q E hr h => ?_)
  · obtain ⟨wd, x, y, n, m, rfl, _⟩ := h
    rfl
  · obtain ⟨wd, x, y, n, m, rfl, h4, hc, hx, hy, q⟩ := h
    refine ⟨_, (pss_cons (ps_if (pt_cmpR op_in_seq (pv 0) (pe_tup (pa_cons pe_str (pa_cons pe_str (pa_cons pe_str (pa_cons pe_str (pa_cons pe_str pa_nil)))))) rfl) (pss_one ps_never) pss_nil)
      (pss_cons (ps_if (PW.pt (pw_or (pt_cmpR op_eq (pv 0) pe_str (nomark _)) (pw_or (pt_val (pe_callB call_isi (by rfl) T.b_isinstance boot_isinstance (pa_cons (pv 1) (pa_cons (pg "Float" T.g_Float (rref _)) pa_nil)))) (pw_or1 (pt_val (pe_callB call_isi (by rfl) T.b_isinstance boot_isinstance (pa_cons (pv 2) (pa_cons (pg "Float" T.g_Float (rref _)) pa_nil)))))))) (pss_one (ps_ret (pk k_by_floats hr (pa_cons (pv 0) (pa_cons (pk k_to_float hr (pa_cons (pv 1) pa_nil)) (pa_cons (pk k_to_float hr (pa_cons (pv 2) pa_nil)) pa_nil)))))) pss_nil)
      (pss_cons ps_never
      (pss_cons ps_never
      (pss_one ps_never))))), ?_⟩
    repeat walk_at "rd"
    refine w_tupI (by show 5 ≤ 1000; decide) fun a1 H1 s1 n1 e1 => ?_
    refine w_in e1 rfl rfl ?_
    rw [four_in h4]
    have hx := hx.same s1
    have hy := hy.same s1
    have q : ∀ a H', Same H1 H' → FlAt CF H' a (ariM wd (toF n) (toF m)) → Q (.ref a) H' := fun a H' s => q a H' (s1.trans s)
    obtain ⟨p1, f1, ⟨t, ty, i1, i2, i3, i4⟩, _, e4⟩ := hx.says T.toAll
    obtain ⟨p2, f2, ⟨t2, ty2, j1, j2, j3, j4⟩, _, e5⟩ := hy.says T.toAll
    repeat walk_at "rd"
    refine iA ?_ (fun c hA => ?_)
    · repeat walk_at "rd"
      refine u_toF hx fun a2 H2 s2 k2 o2 => ?_
      repeat walk_at "rd"
      refine u_toF (hy.same s2) fun a3 H3 s3 k3 o3 => ?_
      repeat walk_at "rd"
      exact u_by h4 (k2.same s3) k3 o2 o3 fun x H' s4 k4 => q x H' (s2.trans (s3.trans s4)) k4
    · repeat walk_at "rd"
      refine w_isi (.own CF) ty i4 ?_
      repeat walk_at "rd"
      refine iAb hA (fun c2 hA => ?_)
      repeat walk_at "rd"
      refine w_isi (.own CF) ty2 j4 ?_
      repeat walk_at "rd"
      refine iAb hA (fun c3 hA => ?_)
      exfalso
      rcases hc with h | h | h
      · exact c h
      · cases n with
        | int i => cases h
        | fl f => rw [e4] at c2; cases c2
      · cases m with
        | int i => cases h
        | fl f => rw [e5] at c3; cases c3
end
end Nu

set_option Elab.async false
set_option linter.all false
set_option maxRecDepth 100000
set_option autoImplicit false
set_option maxHeartbeats 4000000
namespace Nu
open PySem PySem.Spec PyProof.Rows L2 Rd
local macro_rules | `(tactic| walk_at "hp") => `(tactic| first | assumption | (refine same_get ?sm ?_; (case sm => assumption); walk_at "hp"))
local macro_rules | `(tactic| walk_at "rd") => `(tactic| first
  | with_reducible refine w_nx ?_
  | with_reducible refine w_rt ?_
  | with_reducible refine w_bk ?_
  | with_reducible refine w_ct ?_
  | with_reducible refine w_seq ?_
  | with_reducible refine w_next ?_
  | with_reducible refine w_ret ?_
  | with_reducible refine w_ifS ?_
  | with_reducible refine w_asg ?_
  | with_reducible refine w_name ?_
  | with_reducible refine w_par ?_
  | with_reducible refine w_parI ?_
  | with_reducible refine w_ii ?_
  | with_reducible refine w_i1 ?_
  | with_reducible refine w_drop ?_
  | with_reducible refine w_sFld ?_
  | ((with_reducible refine' w_var ?rdh ?_); (case rdh => exact rfl))
  | with_reducible refine w_c ?_
  | with_reducible refine w_op ?_
  | with_reducible refine w_un ?_
  | with_reducible refine w_I0 ?_
  | with_reducible refine w_U ?_
  | with_reducible refine w_bits ?_
  | with_reducible refine w_bitsI ?_
  | with_reducible refine w_tup ?_
  | with_reducible refine w_lst ?_
  | with_reducible refine w_nil ?_
  | with_reducible refine w_cons ?_
  | with_reducible refine w_fld ?_
  | with_reducible refine w_call ?_
  | with_reducible refine w_make ?_
  | with_reducible refine w_gsub ?_
  | with_reducible refine w_int1 ?_
  | with_reducible refine w_intB ?_
  | with_reducible refine w_for ?_
  | with_reducible refine w_rng1 ?_
  | with_reducible refine w_iList ?_
  | with_reducible refine w_iTup ?_
  | with_reducible refine w_makeD ?_
  | with_reducible refine w_nn ?_
  | with_reducible refine w_subB ?_
  | with_reducible refine w_meth ?_
  | with_reducible refine w_cb ?_
  | with_reducible refine w_test ?_
  | with_reducible refine w_B ?_
  | with_reducible refine w_bl ?_
  | with_reducible refine w_andV ?_
  | with_reducible refine w_orV ?_
  | with_reducible refine w_notV ?_
  | with_reducible refine w_and ?_
  | with_reducible refine w_or ?_
  | with_reducible refine w_not ?_
  | with_reducible refine w_if ?_
  | with_reducible refine w_gnil ?_
  | with_reducible refine w_gcons ?_
  | with_reducible refine iT ?_
  | with_reducible refine iF ?_
  | with_reducible refine w_eqI ?_
  | with_reducible refine w_neI ?_
  | with_reducible refine w_eqS ?_
  | with_reducible refine w_eqIS ?_
  | with_reducible refine w_eqSI ?_)

abbrev s_spread_out : Stmt := top 38
abbrev s_rank_of : Stmt := top 39
abbrev s_of_rank : Stmt := top 40
structure AllK (K : PySem.W.Frag) (mg : Str → Option Value) (CF : Addr) : Prop extends AllN K mg CF where
  c_HALF_ROOM : ∃ t, mg "HALF_ROOM" = some (.int 4503599627370496 t)
  c_GREATEST_RANK : ∃ t, mg "GREATEST_RANK" = some (.int 9218868437227405312 t)
  x_spread_out : Tx K mg "spread_out" "spread_out" s_spread_out ["number"]
  x_rank_of : Tx K mg "rank_of" "rank_of" s_rank_of ["number"]
  x_of_rank : Tx K mg "of_rank" "of_rank" s_of_rank ["rank"]
/-! ### ranks, plainly -/
def rkM : Fl → Int
  | .nan => 0
  | .inf s => s * 9218868437227405312
  | .fin s t p => if t = 0 then 0 else s * rkA (t * 2 ^ (mr t p).toNat) (p - mr t p)
def sgI (r : Int) : Int := if r < 0 then -1 else 1
theorem sgI_pm (r : Int) : sgI r = 1 ∨ sgI r = -1 := sgn_pm r
def ofM (r : Int) : Fl := if absI r = 9218868437227405312 then .inf (sgI r) else
  .fin (sgI r) (red (absI r - kOf (absI r) * 4503599627370496) (kOf (absI r) + -1074)).1 (red (absI r - kOf (absI r) * 4503599627370496) (kOf (absI r) + -1074)).2
theorem fin_can {s t p : Int} (h : (Fl.fin s t p).ok) (ht : t ≠ 0) : 0 ≤ mr t p ∧ mr t p ≤ 53 ∧ Can (t * 2 ^ (mr t p).toNat) (p - mr t p) ∧ t * 2 ^ (mr t p).toNat * G (p - mr t p) = t * G p := by
  obtain ⟨_, t0, t1, _, hn⟩ := h
  obtain ⟨a, b, c⟩ := hn ht
  exact spread_can (by omega) t1 a b
theorem of_arg {r : Int} (h : absI r < 9218868437227405312) : Arg (sgI r) (.int (absI r - kOf (absI r) * 4503599627370496)) (kOf (absI r) + -1074) (.fin (sgI r) (red (absI r - kOf (absI r) * 4503599627370496) (kOf (absI r) + -1074)).1 (red (absI r - kOf (absI r) * 4503599627370496) (kOf (absI r) + -1074)).2) := by
  have a0 := absI_nn r
  generalize absI r = n at *
  rcases Int.lt_or_eq_of_le a0 with c | c
  · obtain ⟨cn, _⟩ := rank_can c h
    refine .inl ⟨_, rfl, Int.le_of_lt cn.t0, sgI_pm r, red_fits (Int.le_of_lt cn.t0) (Int.le_of_lt cn.t1) cn.p0 ?_, rfl⟩
    have := (bits_lt_pow (n := n - kOf n * 4503599627370496) (k := 53) (Int.le_of_lt cn.t0)).2 cn.t1
    have := cn.p1
    omega
  · rw [← c, show kOf 0 = 0 by decide]
    exact .inl ⟨0, rfl, by decide, sgI_pm r, by decide, rfl⟩
theorem ofM_ok {r : Int} (h : absI r ≤ 9218868437227405312) : (ofM r).ok := by
  unfold ofM
  split
  · exact sgI_pm r
  · exact Arg.ok (of_arg (by omega))
theorem rk_lt {f : Fl} (h : f.ok) : absI (rkM f) ≤ 9218868437227405312 ∧ (isInf f = false → absI (rkM f) < 9218868437227405312) := by
  cases f with
  | nan => exact ⟨by decide, fun _ => by decide⟩
  | inf s =>
    refine ⟨?_, fun z => by cases z⟩
    show absI (s * 9218868437227405312) ≤ _
    rcases (show s = 1 ∨ s = -1 from h) with rfl | rfl <;> decide
  | fin s t p =>
    have : absI (rkM (.fin s t p)) < 9218868437227405312 := by
      show absI (if t = 0 then 0 else _) < _
      by_cases ht : t = 0
      · rw [if_pos ht]; decide
      · rw [if_neg ht]
        obtain ⟨_, _, c, _⟩ := fin_can h ht
        have h1 := c.pos
        have h2 := c.lt
        rcases h.1 with h3 | h3 <;> rw [h3] <;> unfold absI <;> split <;> omega
    exact ⟨Int.le_of_lt this, fun _ => this⟩
def upM (f : Fl) : Fl := if isNan f = true then f else if isInf f = true ∧ 0 < f.s then f else ofM (rkM f + 1)
def dnM (f : Fl) : Fl := if isNan f = true then f else if isInf f = true ∧ f.s < 0 then f else ofM (rkM f - 1)
theorem up_in {f : Fl} (h : f.ok) (h1 : isNan f = false) (h2 : ¬ (isInf f = true ∧ 0 < f.s)) : absI (rkM f + 1) ≤ 9218868437227405312 := by
  have b := rk_lt h
  cases f with
  | nan => cases h1
  | inf s =>
    have : s = -1 := by
      rcases (show s = 1 ∨ s = -1 from h) with h3 | h3
      · exact absurd ⟨rfl, by show 0 < s; omega⟩ h2
      · exact h3
    subst this
    decide
  | fin s t p =>
    have := b.2 rfl
    revert this
    generalize rkM (.fin s t p) = r
    unfold absI
    intro this
    split at this <;> split <;> omega
theorem dn_in {f : Fl} (h : f.ok) (h1 : isNan f = false) (h2 : ¬ (isInf f = true ∧ f.s < 0)) : absI (rkM f - 1) ≤ 9218868437227405312 := by
  have b := rk_lt h
  cases f with
  | nan => cases h1
  | inf s =>
    have : s = 1 := by
      rcases (show s = 1 ∨ s = -1 from h) with h3 | h3
      · exact h3
      · exact absurd ⟨rfl, by show s < 0; omega⟩ h2
    subst this
    decide
  | fin s t p =>
    have := b.2 rfl
    revert this
    generalize rkM (.fin s t p) = r
    unfold absI
    intro this
    split at this <;> split <;> omega
theorem upM_ok {f : Fl} (h : f.ok) : (upM f).ok := by
  unfold upM
  split
  · exact h
  split
  · exact h
  · rename_i h1 h2
    exact ofM_ok (up_in h (Bool.eq_false_iff.mpr h1) h2)
theorem dnM_ok {f : Fl} (h : f.ok) : (dnM f).ok := by
  unfold dnM
  split
  · exact h
  split
  · exact h
  · rename_i h1 h2
    exact ofM_ok (dn_in h (Bool.eq_false_iff.mpr h1) h2)
section
variable {P : Program} {w : World} {K : PySem.W.Frag} {mg : Str → Option Value} {base : Heap} {CF : Addr}
def spSpread (CF : Addr) : Sp := fun vs H Q _ => ∃ a s t p, vs = [.ref a] ∧ FlAt CF H a (.fin s t p) ∧ (Fl.fin s t p).ok ∧ t ≠ 0 ∧ ∀ q H', Same H H' → H' q = some (.tup [.int (t * 2 ^ (mr t p).toNat), .int (p - mr t p)]) → Q (.ref q) H'
theorem sc_spread_out : FnScope ["number", "more"] ["number"] (defScope s_spread_out) := ⟨rfl, rfl, rfl, by decide +kernel, rfl, by decide +kernel, by decide +kernel⟩
theorem ok_spread (T : AllK K mg CF) : Kn P w K mg base CX0 1 "spread_out" ["number"] (spSpread CF) := by
  refine T.x_spread_out.kn fun f fd F => ?_
  refine F.ok sc_spread_out (fun vs H Q E h => ?_) (fun cdv A outer s H vs Q E hr h => ?_)
  · obtain ⟨a, s, t, p, rfl, _⟩ := h
    rfl
  · obtain ⟨a, s, t, p, rfl, hf, okf, ht, q⟩ := h
    refine ⟨_, (pss_cons (ps_set (i := 1) sc_spread_out.nd rfl (Or.inl rfl) (pe_callB (call_min2 rfl) (by rfl) T.b_min boot_min (pa_cons (pe_op op_sub pe_int (pe_bits (pe_fld (pv 0) rfl))) (pa_cons (pe_op op_sub (pe_fld (pv 0) rfl) (pgE "LOWEST" T.c_LOWEST)) pa_nil))))
      (pss_one (ps_ret (pe_tup (pa_cons (pe_op op_shlW (pe_fld (pv 0) rfl) (pv 1)) (pa_cons (pe_op op_sub (pe_fld (pv 0) rfl) (pv 1)) pa_nil)))))), ?_⟩
    obtain ⟨dx, h1⟩ := id hf
    have h1 : H a = some (.ins CF dx (flds s (.int t) p)) := h1
    obtain ⟨m0, m1, _, _⟩ := fin_can okf ht
    obtain ⟨bs, bt, p1, p2, t0, tp⟩ := ok_bounds okf
    repeat walk_at "rd"
    refine w_fldI h1 T.l_Float T.n_top (flds_t _ _ _) ?_
    repeat walk_at "rd"
    refine w_fldI h1 T.l_Float T.n_power (flds_p _ _ _) ?_
    repeat walk_at "rd"
    have em : (if p - -1074 < 53 - (Builtin.Int.intBits t : Int) then p - -1074 else 53 - (Builtin.Int.intBits t : Int)) = mr t p := rfl
    rw [em]
    repeat walk_at "rd"
    refine w_fldI h1 T.l_Float T.n_top (flds_t _ _ _) ?_
    repeat walk_at "rd"
    refine w_I (cshl (i := t) (j := mr t p) (by omega) m0 (by omega)) ?_
    repeat walk_at "rd"
    refine w_fldI h1 T.l_Float T.n_power (flds_p _ _ _) ?_
    repeat walk_at "rd"
    exact w_tup2 fun a1 H1 s1 n1 e1 => q a1 H1 s1 e1
def spRank (CF : Addr) : Sp := fun vs H Q _ => ∃ a f, vs = [.ref a] ∧ FlAt CF H a f ∧ f.ok ∧ isNan f = false ∧ ∀ H', Same H H' → Q (.int (rkM f)) H'
theorem sc_rank_of : FnScope ["number", "top", "power"] ["number"] (defScope s_rank_of) := ⟨rfl, rfl, rfl, by decide +kernel, rfl, by decide +kernel, by decide +kernel⟩
theorem ok_rank_of (T : AllK K mg CF) (k_spread_out : Kn P w K mg base CX0 1 "spread_out" ["number"] (spSpread CF)) : Kn P w K mg base CX0 2 "rank_of" ["number"] (spRank CF) := by
  refine T.x_rank_of.kn fun f fd F => ?_
  refine F.ok sc_rank_of (fun vs H Q E h => ?_) (fun cdv A outer s H vs Q E hr h => ?_)
  · obtain ⟨a, f, rfl, _⟩ := h
    rfl
  · obtain ⟨a, f, rfl, hf, okf, nf, q⟩ := h
    refine ⟨_, (pss_cons (ps_if (PW.pt (pw_or (pt_not (pt_val (pe_callB call_isi (by rfl) T.b_isinstance boot_isinstance (pa_cons (pv 0) (pa_cons (pg "Float" T.g_Float (rref _)) pa_nil))))) (pw_or1 (pt_cmpR op_eq (pe_fld (pv 0) rfl) pe_str (nomark _))))) (pss_one ps_never) pss_nil)
      (pss_cons (ps_if (pt_cmpR op_eq (pe_fld (pv 0) rfl) pe_int (nomark _)) (pss_one (ps_ret pe_int)) pss_nil)
      (pss_cons (ps_if (pt_cmpR op_eq (pe_fld (pv 0) rfl) pe_str (nomark _)) (pss_one (ps_ret (pe_op op_mulX (pe_fld (pv 0) rfl) (pgE "GREATEST_RANK" T.c_GREATEST_RANK)))) pss_nil)
      (pss_cons (ps_asg (pk k_spread_out hr (pa_cons (pv 0) pa_nil)) (pg_tup (by rfl) (pgs_cons (pg_name (i := 1) sc_rank_of.nd rfl (Or.inl rfl)) (pgs_cons (pg_name (i := 2) sc_rank_of.nd rfl (Or.inl rfl)) pgs_nil))))
      (pss_one (ps_ret (pe_op op_mulX (pe_fld (pv 0) rfl) (pe_op op_add (pv 1) (pe_op op_mulX (pe_op op_sub (pv 2) (pgE "LOWEST" T.c_LOWEST)) (pgE "HALF_ROOM" T.c_HALF_ROOM)))))))))), ?_⟩
    obtain ⟨dx, h1⟩ := id hf
    obtain ⟨t, ty, i1, i2, i3, i4⟩ := says_fl T.toAll h1
    repeat walk_at "rd"
    refine w_isi (.own CF) ty i4 ?_
    repeat walk_at "rd"
    refine iF ?_
    repeat walk_at "rd"
    refine w_fldI h1 T.l_Float T.n_top (flds_t _ _ _) ?_
    repeat walk_at "rd"
    refine w_nan ?_
    rw [nf]
    repeat walk_at "rd"
    refine w_fldI h1 T.l_Float T.n_top (flds_t _ _ _) ?_
    repeat walk_at "rd"
    refine w_zero ?_
    repeat walk_at "rd"
    cases f with
    | nan => cases nf
    | inf s =>
      have h1 : H a = some (.ins CF dx (flds s (.str "inf") 0)) := h1
      refine iF ?_
      repeat walk_at "rd"
      refine w_fldI h1 T.l_Float T.n_top (flds_t _ _ _) ?_
      repeat walk_at "rd"
      refine iD (fun _ => ?_) (fun c => absurd rfl c)
      repeat walk_at "rd"
      refine w_fldI h1 T.l_Float T.n_sign (flds_s _ _ _) ?_
      repeat walk_at "rd"
      refine w_I (cmulS (i := s) (j := 9218868437227405312) (by have := (show s = 1 ∨ s = -1 from okf); omega) (by decide)) ?_
      exact q H (Same.refl _)
    | fin s t p =>
      have h1 : H a = some (.ins CF dx (flds s (.int t) p)) := h1
      have q : ∀ H', Same H H' → Q (.int (if t = 0 then 0 else s * rkA (t * 2 ^ (mr t p).toNat) (p - mr t p))) H' := q
      show if decide (t = 0) = true then _ else _
      refine iD (fun c => ?_) (fun c => ?_)
      · rw [if_pos c] at q
        repeat walk_at "rd"
        exact q H (Same.refl _)
      · rw [if_neg c] at q
        obtain ⟨m0, m1, cn, _⟩ := fin_can okf c
        have c1 := cn.t0
        have c2 := cn.t1
        have c3 := cn.p0
        have c4 := cn.p1
        have sp := okf.1
        repeat walk_at "rd"
        refine w_fldI h1 T.l_Float T.n_top (flds_t _ _ _) ?_
        repeat walk_at "rd"
        refine ⟨a, s, t, p, rfl, hf, okf, c, fun q1 H1 s1 e1 => ?_⟩
        have q := q H1 s1
        generalize t * 2 ^ (mr t p).toNat = T1 at *
        generalize p - mr t p = P1 at *
        refine w_gtup e1 rfl ?_
        repeat walk_at "rd"
        refine w_fldI (s1 _ _ h1) T.l_Float T.n_sign (flds_s _ _ _) ?_
        repeat walk_at "rd"
        refine w_I (cmulS (i := P1 - -1074) (j := 4503599627370496) (by omega) (by decide)) ?_
        repeat walk_at "rd"
        refine w_I (cmulS (i := s) (j := T1 + (P1 - -1074) * 4503599627370496) (by omega) (by omega)) ?_
        unfold rkA at q
        rw [show P1 - -1074 = P1 + 1074 by omega]
        exact q
def spOfR (CF : Addr) : Sp := fun vs H Q _ => ∃ r, vs = [.int r] ∧ absI r ≤ 9218868437227405312 ∧ ∀ x H', Same H H' → H x = none → FlAt CF H' x (ofM r) → Q (.ref x) H'
theorem es_sg (r : Int) : (if decide (r < 0) = true then (-1 : Int) else 1) = sgI r := by
  unfold sgI
  simp only [decide_eq_true_eq]
theorem sc_of_rank : FnScope ["rank", "power"] ["rank"] (defScope s_of_rank) := ⟨rfl, rfl, rfl, by decide +kernel, rfl, by decide +kernel, by decide +kernel⟩
theorem ok_of_rank (T : AllK K mg CF) (k_infinity : Kn P w K mg base CX0 4 "infinity" ["sign"] (spInf CF)) (k_sign_of : Kn P w K mg base CX0 1 "sign_of" ["is_negative"] spSign) (k_Float_init : KnC P w K mg base CX0 2 "Float" CF ["self", "sign", "top", "power"] (spInit CF)) : Kn P w K mg base CX0 5 "of_rank" ["rank"] (spOfR CF) := by
  refine T.x_of_rank.kn fun f fd F => ?_
  refine F.ok sc_of_rank (fun vs H Q E h => ?_) (fun cdv A outer s H vs Q E hr h => ?_)
  · obtain ⟨r, rfl, _⟩ := h
    rfl
  · obtain ⟨r, rfl, hb, q⟩ := h
    refine ⟨_, (pss_cons (ps_if (PW.pt (pw_or (pt_not (pt_val (pe_callB call_isi (by rfl) T.b_isinstance boot_isinstance (pa_cons (pv 0) (pa_cons (pe_bltn (by rfl) T.b_int boot_int (rty _)) pa_nil))))) (pw_or (pt_val (pe_callB call_isi (by rfl) T.b_isinstance boot_isinstance (pa_cons (pv 0) (pa_cons (pe_bltn (by rfl) T.b_bool boot_bool (rty _)) pa_nil)))) (pw_or1 (pt_cmpR op_gt (pe_callB call_abs (by rfl) T.b_abs boot_abs (pa_cons (pv 0) pa_nil)) (pgE "GREATEST_RANK" T.c_GREATEST_RANK) (nomark _)))))) (pss_one ps_never) pss_nil)
      (pss_cons (ps_if (pt_cmpR op_eq (pe_callB call_abs (by rfl) T.b_abs boot_abs (pa_cons (pv 0) pa_nil)) (pgE "GREATEST_RANK" T.c_GREATEST_RANK) (nomark _)) (pss_one (ps_ret (pk k_infinity hr (pa_cons (pk k_sign_of hr (pa_cons (pe_cmpR op_lt (pv 0) pe_int (nomark _)) pa_nil)) pa_nil)))) pss_nil)
      (pss_cons (ps_set (i := 1) sc_of_rank.nd rfl (Or.inl rfl) (pe_callB (call_max2 rfl) (by rfl) T.b_max boot_max (pa_cons (pe_op op_sub (pe_op op_fdivW (pe_callB call_abs (by rfl) T.b_abs boot_abs (pa_cons (pv 0) pa_nil)) (pgE "HALF_ROOM" T.c_HALF_ROOM)) pe_int) (pa_cons pe_int pa_nil))))
      (pss_one (ps_ret (pkC k_Float_init hr (pa_cons (pk k_sign_of hr (pa_cons (pe_cmpR op_lt (pv 0) pe_int (nomark _)) pa_nil)) (pa_cons (pe_op op_sub (pe_callB call_abs (by rfl) T.b_abs boot_abs (pa_cons (pv 0) pa_nil)) (pe_op op_mulX (pv 1) (pgE "HALF_ROOM" T.c_HALF_ROOM))) (pa_cons (pe_op op_add (pv 1) (pgE "LOWEST" T.c_LOWEST)) pa_nil))))))))), ?_⟩
    obtain ⟨t, ty, i1, i2, i3, i4⟩ := says_int (i := r) (H := H) T.toAll
    have a0 := absI_nn r
    have ea : (if r < 0 then -r else r) = absI r := rfl
    unfold ofM at q
    repeat walk_at "rd"
    refine w_isi (.ty "int") ty i1 ?_
    repeat walk_at "rd"
    refine iF ?_
    repeat walk_at "rd"
    refine w_isi (.ty "bool") ty i2 ?_
    repeat walk_at "rd"
    rw [ea]
    refine iD (fun c => absurd c (by omega)) (fun _ => ?_)
    repeat walk_at "rd"
    rw [ea]
    refine iD (fun c => ?_) (fun c => ?_)
    · rw [if_pos c] at q
      repeat walk_at "rd"
      refine ⟨_, rfl, ?_⟩
      rw [es_sg]
      repeat walk_at "rd"
      exact u_inf (sgI_pm r) q
    · rw [if_neg c] at q
      have hlt : absI r < 9218868437227405312 := by omega
      have ar := of_arg hlt
      repeat walk_at "rd"
      rw [ea]
      generalize absI r = n at *
      refine w_I (cdivw (i := n) (j := 4503599627370496) (by decide) (by decide)) ?_
      repeat walk_at "rd"
      have ek : (if 0 > n / 4503599627370496 - 1 then 0 else n / 4503599627370496 - 1) = kOf n := rfl
      rw [ek]
      have kb : 0 ≤ kOf n ∧ kOf n ≤ 3000 := by unfold kOf; split <;> omega
      repeat walk_at "rd"
      refine ⟨_, rfl, ?_⟩
      rw [es_sg]
      repeat walk_at "rd"
      refine w_I (cmulS (i := kOf n) (j := 4503599627370496) (by omega) (by decide)) ?_
      refine w_I0 ?_
      rw [ea]
      repeat walk_at "rd"
      exact u_Float ar q
theorem u_rank {a : Addr} {f : Fl} {H : Hp} {Q : VK} {E : XK} (hf : FlAt CF H a f) (ok : f.ok) (nf : isNan f = false) (q : ∀ H', Same H H' → Q (.int (rkM f)) H') : spRank CF ([V.ref a] ++ []) H Q E := ⟨a, f, rfl, hf, ok, nf, q⟩
theorem u_ofR {r : Int} {H : Hp} {Q : VK} {E : XK} (h : absI r ≤ 9218868437227405312) (q : ∀ x H', Same H H' → H x = none → FlAt CF H' x (ofM r) → Q (.ref x) H') : spOfR CF ([V.int r] ++ []) H Q E := ⟨r, rfl, h, q⟩
end
end Nu

set_option Elab.async false
set_option linter.all false
set_option maxRecDepth 100000
set_option autoImplicit false
set_option maxHeartbeats 4000000
namespace Nu
open PySem PySem.Spec PyProof.Rows L2 Rd
/-! ### ranks and floats -/
theorem sg_abs (r : Int) : sgI r * absI r = r := by
  unfold sgI absI
  split <;> omega
theorem absT {s x : Int} (hs : s = 1 ∨ s = -1) (hx : 0 ≤ x) : absI (s * x) = x := by
  unfold absI
  rcases hs with rfl | rfl
  · rw [Int.one_mul, if_neg (by omega)]
  · split <;> omega
theorem sgT {s x : Int} (hs : s = 1 ∨ s = -1) (hx : 0 < x) : sgI (s * x) = s := by
  unfold sgI
  rcases hs with rfl | rfl
  · rw [if_neg (by omega)]
  · rw [if_pos (by omega)]
theorem rkM_fin (s t p : Int) : rkM (.fin s t p) = if t = 0 then 0 else s * rkA (t * 2 ^ (mr t p).toNat) (p - mr t p) := rfl
/-- the rank of what is told, by its value -/
theorem rk_red {s T P : Int} (hc : Can T P) (hok : (Fl.fin s (red T P).1 (red T P).2).ok) : (red T P).1 ≠ 0 ∧ rkM (.fin s (red T P).1 (red T P).2) = s * rkA T P := by
  have hv := red_G hc.t0 (p := P) (by have := hc.p0; omega)
  have ht : (red T P).1 ≠ 0 := fun z => by
    rw [z, Int.zero_mul] at hv
    have := Int.mul_pos hc.t0 (G_pos P)
    omega
  obtain ⟨_, _, c2, e2⟩ := fin_can hok ht
  refine ⟨ht, ?_⟩
  rw [rkM_fin, if_neg ht]
  congr 1
  exact (can_eq c2 hc).1 (e2.trans hv)
theorem rk_of {r : Int} (h : absI r ≤ 9218868437227405312) : rkM (ofM r) = r := by
  have a0 := absI_nn r
  have sa := sg_abs r
  have ok := ofM_ok h
  unfold ofM at ok ⊢
  by_cases c : absI r = 9218868437227405312
  · rw [if_pos c]
    show sgI r * 9218868437227405312 = r
    rw [← c]
    exact sa
  · rw [if_neg c] at ok ⊢
    rcases Int.lt_or_eq_of_le a0 with c2 | c2
    · obtain ⟨cn, e⟩ := rank_can c2 (by omega)
      obtain ⟨_, e2⟩ := rk_red cn ok
      rw [e2, e, sa]
    · rw [← c2, show kOf 0 = 0 by decide]
      have r0 : r = 0 := by rw [← c2, Int.mul_zero] at sa; omega
      rw [r0]
      decide
theorem of_rk {s t p : Int} (h : (Fl.fin s t p).ok) (ht : t ≠ 0) : ofM (rkM (.fin s t p)) = .fin s t p := by
  obtain ⟨_, _, c, e⟩ := fin_can h ht
  have pos := c.pos
  rw [rkM_fin, if_neg ht]
  unfold ofM
  rw [absT h.1 (Int.le_of_lt pos), sgT h.1 pos, if_neg (by have := c.lt; omega)]
  obtain ⟨cn, e2⟩ := rank_can pos c.lt
  generalize hn : rkA (t * 2 ^ (mr t p).toNat) (p - mr t p) = n at *
  generalize hT : n - kOf n * 4503599627370496 = T at *
  generalize hP : kOf n + -1074 = P at *
  have v := (can_eq cn c).2 (e2.trans hn.symm)
  have hv := red_G cn.t0 (p := P) (by have := cn.p0; omega)
  obtain ⟨k, m, hm, h1, h2⟩ := red_spec cn.t0 P
  have ho : t % 2 = 1 := (h.2.2.2.2 ht).2.2
  have hp : -1074 ≤ p := (h.2.2.2.2 ht).1
  rw [h2] at hv ⊢
  have hv : (2 * m + 1) * G (P + k) = T * G P := hv
  obtain ⟨u1, u2⟩ := odd_unique (t := 2 * m + 1) (p := P + k) (t' := t) (p' := p) (by omega) ho (by have := cn.p0; omega) (by omega) (hv.trans (v.trans e))
  show Fl.fin s (2 * m + 1) (P + k) = _
  rw [u1, u2]
/-! ### the order -/
theorem rat_G {t p : Int} (h : -3000 ≤ p) : (if p < 0 then t else t * 2 ^ p.toNat) * G 0 = t * (G p * ratB p) := by
  unfold ratB
  split
  · rename_i c
    have e1 : G 0 = 2 ^ (0 - p).toNat * G p := by
      have := G_add (e := p) (0 - p).toNat h
      rwa [show p + ((0 - p).toNat : Int) = 0 by omega] at this
    rw [e1, Int.mul_comm (G p)]
  · rename_i c
    have e1 : G p = 2 ^ p.toNat * G 0 := by
      have := G_add (e := 0) p.toNat (by decide)
      rwa [show (0 : Int) + (p.toNat : Int) = p by omega] at this
    rw [e1, Int.mul_one, Int.mul_assoc]
theorem ratT_G {s t p : Int} (h : -3000 ≤ p) : ratT s t p * G 0 = s * (t * G p) * ratB p := by
  have h1 := rat_G (t := t) h
  have h2 : ratT s t p = s * (if p < 0 then t else t * 2 ^ p.toNat) := by
    unfold ratT
    split <;> rfl
  rw [h2, Int.mul_assoc, h1]
  simp only [Int.mul_assoc]
theorem ok_p {s t p : Int} (h : (Fl.fin s t p).ok) : -1074 ≤ p ∧ p ≤ 1023 := by
  obtain ⟨_, _, p1, p2, _, _⟩ := ok_bounds h
  exact ⟨p1, p2⟩
/-- the rank's size -/
def rA (t p : Int) : Int := if t = 0 then 0 else rkA (t * 2 ^ (mr t p).toNat) (p - mr t p)
theorem rkM_A (s t p : Int) : rkM (.fin s t p) = s * rA t p := by
  rw [rkM_fin]
  unfold rA
  split
  · rw [Int.mul_zero]
  · rfl
theorem rA_nn {s t p : Int} (h : (Fl.fin s t p).ok) : 0 ≤ rA t p ∧ (t = 0 ↔ rA t p = 0) ∧ 0 ≤ t * G p ∧ (t * G p = 0 ↔ rA t p = 0) := by
  have t0 := h.2.1
  unfold rA
  by_cases c : t = 0
  · rw [if_pos c, c, Int.zero_mul]
    exact ⟨by decide, by simp, by decide, by simp⟩
  · rw [if_neg c]
    obtain ⟨_, _, cn, _⟩ := fin_can h c
    have := cn.pos
    have := Int.mul_pos (show 0 < t by omega) (G_pos p)
    exact ⟨by omega, by omega, by omega, by omega⟩
theorem rA_lt {s t p r u q : Int} (h : (Fl.fin s t p).ok) (k : (Fl.fin r u q).ok) : t * G p < u * G q ↔ rA t p < rA u q := by
  by_cases c : t = 0
  · have h1 := rA_nn h
    have h2 := rA_nn k
    have e1 : t * G p = 0 := by rw [c, Int.zero_mul]
    have e2 : rA t p = 0 := h1.2.1.1 c
    omega
  · by_cases d : u = 0
    · have h1 := rA_nn h
      have h2 := rA_nn k
      have e1 : u * G q = 0 := by rw [d, Int.zero_mul]
      have e2 : rA u q = 0 := h2.2.1.1 d
      omega
    · obtain ⟨_, _, c1, e1⟩ := fin_can h c
      obtain ⟨_, _, c2, e2⟩ := fin_can k d
      have := can_lt c1 c2
      unfold rA
      rw [if_neg c, if_neg d, ← this, e1, e2]
/-! ### the middle -/
theorem can_up {T P T' P' : Int} (c : Can T P) (c' : Can T' P') (h : rkA T' P' = rkA T P + 1) : T' * G P' = (T + 1) * G P := by
  have t1 := c.t1
  have t0 := c.t0
  have p0 := c.p0
  have p1 := c.p1
  rcases Int.lt_or_le (T + 1) 9007199254740992 with k | k
  · refine (can_eq c' ⟨by omega, k, p0, p1, fun z => by have := c.c z; omega⟩).2 ?_
    rw [h]
    unfold rkA
    omega
  · have ht : T = 9007199254740991 := by omega
    subst ht
    have lt := c'.lt
    rw [h] at lt
    have hp : P + 1 ≤ 971 := by
      unfold rkA at lt
      omega
    have e := (can_eq c' ⟨by decide, by decide, show -1074 ≤ P + 1 by omega, hp, fun _ => Int.le_refl _⟩ (T' := 4503599627370496)).2 (by rw [h]; unfold rkA; omega)
    rw [e, G_succ (by omega)]
    omega
theorem near_outP {s t b m e : Int} (ht : 0 < t) (hb : 0 < b) (hh : pw t b ≤ 2800) (hm : 0 < m) (hm2 : m < 9007199254740992) (he : -1074 ≤ e) (he2 : e ≤ 2900) (h : t * G 0 = m * (G e * b)) (hov : ¬ ((2 : Int) ^ 1024 - 2 ^ 970) * b ≤ t) :
    ∃ M Q, nearM s t b = .fin s M Q ∧ 0 < M ∧ -1074 ≤ Q ∧ M * G Q = m * G e := by
  have n := near_whP ht hb hh
  have x := near_exact n hb hm hm2 he he2 h
  have W0 : 0 < wh t b := by
    have h1 := Int.mul_pos hm (G_pos e)
    rw [← x] at h1
    rcases Int.lt_or_eq_of_le n.w0 with c | c
    · exact c
    · rw [← c, Int.zero_mul] at h1; omega
  have p0 := n.p0
  have rg := red_G W0 (p := p2 t b) (by omega)
  obtain ⟨k, m2, h1, h2, h3⟩ := red_spec W0 (p2 t b)
  refine ⟨(red (wh t b) (p2 t b)).1, (red (wh t b) (p2 t b)).2, ?_, ?_, ?_, rg.trans x⟩
  · unfold nearM
    rw [if_neg (by omega), if_neg (fun c => hov ((edge n hb).1 c))]
  · rw [h3]; show 0 < 2 * m2 + 1; omega
  · rw [h3]; show -1074 ≤ p2 t b + k; omega
theorem near_out {s t b m e : Int} (ht : 0 < t) (hb : 0 < b) (hh : bits t ≤ 2800) (hm : 0 < m) (hm2 : m < 9007199254740992) (he : -1074 ≤ e) (he2 : e ≤ 2900) (h : t * G 0 = m * (G e * b)) (hov : ¬ ((2 : Int) ^ 1024 - 2 ^ 970) * b ≤ t) :
    ∃ M Q, nearM s t b = .fin s M Q ∧ 0 < M ∧ -1074 ≤ Q ∧ M * G Q = m * G e := by
  refine near_outP ht hb ?_ hm hm2 he he2 h hov
  have := bits_nn b
  unfold pw; split <;> omega
theorem top_lt {s u q : Int} (h : (Fl.fin s u q).ok) : u * G q ≤ 9007199254740991 * G 971 := by
  obtain ⟨_, bu, q1, q2, u0, uq⟩ := ok_bounds h
  have ul : u < 9007199254740992 := h.2.2.1
  rcases Int.lt_or_le 971 q with c | c
  · obtain ⟨k, hk⟩ : ∃ k : Nat, q = 971 + k := ⟨(q - 971).toNat, by omega⟩
    rw [hk, G_add k (by decide), ← Int.mul_assoc]
    refine Int.mul_le_mul_of_nonneg_right ?_ (Int.le_of_lt (G_pos _))
    have hk2 : k ≤ 53 := by have := bits_nn u; omega
    have h1 : u < 2 ^ (53 - k) := (bits_lt_pow u0).1 (by omega)
    have h2 : (u + 1) * 2 ^ k ≤ 2 ^ (53 - k) * 2 ^ k := Int.mul_le_mul_of_nonneg_right (by omega) (Int.le_of_lt (pow_pos2 k))
    rw [← Int.pow_add, show 53 - k + k = 53 by omega, Int.add_mul, Int.one_mul, show (2 : Int) ^ 53 = 9007199254740992 by decide] at h2
    have := pow_pos2 k
    omega
  · have h1 : u * G q ≤ u * G 971 := Int.mul_le_mul_of_nonneg_left (G_le c) u0
    have h2 : u * G 971 ≤ 9007199254740991 * G 971 := Int.mul_le_mul_of_nonneg_right (by omega) (Int.le_of_lt (G_pos _))
    omega
/-- half of a float that is not too small -/
theorem half_ex {s t p : Int} (h : (Fl.fin s t p).ok) (ht : t ≠ 0) (hp : -1073 ≤ p) : ∃ M Q, mulM (.fin s t p) (.fin 1 1 (-1)) = .fin s M Q ∧ 0 < M ∧ -1074 ≤ Q ∧ 2 * (M * G Q) = t * G p := by
  have t0 : 0 < t := by have := h.2.1; omega
  have tl := h.2.2.1
  obtain ⟨_, p1⟩ := ok_p h
  have e1 : mulM (.fin s t p) (.fin 1 1 (-1)) = nearM (s * 1) (absI (ratT s t p * ratT 1 1 (-1))) (ratB p * ratB (-1)) := by
    unfold mulM
    rw [if_neg (show ¬ (isNan (.fin s t p) || isNan (.fin 1 1 (-1))) = true from Bool.false_ne_true), if_neg (show ¬ (isInf (.fin s t p) || isInf (.fin 1 1 (-1))) = true from Bool.false_ne_true)]
  have rh : ratT 1 1 (-1) = 1 := by decide
  have bh : ratB (-1) = 2 := by decide
  have B0 : 0 < ratB p * 2 := Int.mul_pos (ratB_pos p) (by decide)
  have rT : absI (ratT s t p) * G 0 = t * (G p * ratB p) := by
    have h1 := ratT_G (s := 1) (t := t) (p := p) (by omega)
    have h2 : ratT s t p = s * ratT 1 t p := by
      unfold ratT
      split <;> rw [Int.one_mul]
    have h3 : 0 ≤ ratT 1 t p := by
      have g0 := G_pos 0
      rcases Int.lt_or_le (ratT 1 t p) 0 with c | c
      · have := Int.mul_neg_of_neg_of_pos c g0
        have h4 := Int.mul_nonneg (Int.mul_nonneg (show 0 ≤ (1 : Int) by decide) (Int.mul_nonneg (Int.le_of_lt t0) (Int.le_of_lt (G_pos p)))) (Int.le_of_lt (ratB_pos p))
        omega
      · exact c
    rw [h2, absT h.1 h3, h1, Int.one_mul, Int.mul_assoc]
  have gp := G_pred (e := p) (by omega)
  have hv : absI (ratT s t p) * G 0 = t * (G (p - 1) * (ratB p * 2)) := by
    rw [rT, gp]
    simp only [Int.mul_assoc, Int.mul_comm, Int.mul_left_comm]
  have rne := ratT_ne h ht
  have apos : 0 < absI (ratT s t p) := by unfold absI; split <;> omega
  have hb : bits (absI (ratT s t p)) ≤ 2800 := by
    rw [absI_bits]
    have := ratT_b h
    omega
  have hov : ¬ ((2 : Int) ^ 1024 - 2 ^ 970) * (ratB p * 2) ≤ absI (ratT s t p) := by
    intro k
    have e2 : ((2 : Int) ^ 1024 - 2 ^ 970) * G 0 = 18014398509481983 * G 970 := by decide +kernel
    have k1 := Int.mul_le_mul_of_nonneg_right k (Int.le_of_lt (G_pos 0))
    rw [Int.mul_right_comm, e2, hv, ← Int.mul_assoc t] at k1
    have k2 := Int.le_of_mul_le_mul_right k1 B0
    have k3 := top_lt h
    have k4 := G_pred (e := 971) (by decide)
    rw [gp, Int.mul_left_comm] at k3
    have k5 := G_pos 970
    simp only [show (971 : Int) - 1 = 970 from rfl] at k4
    omega
  obtain ⟨M, Q, o1, o2, o3, o4⟩ := near_out (s := s) apos B0 hb t0 tl (show -1074 ≤ p - 1 by omega) (by omega) hv hov
  refine ⟨M, Q, ?_, o2, o3, ?_⟩
  · rw [e1, rh, bh, Int.mul_one, Int.mul_one]
    exact o1
  · rw [o4, gp, Int.mul_left_comm]
theorem rk_val {s t p T P : Int} (hok : (Fl.fin s t p).ok) (ht : t ≠ 0) (hc : Can T P) (e : t * G p = T * G P) : rkM (.fin s t p) = s * rkA T P := by
  obtain ⟨_, _, c2, e2⟩ := fin_can hok ht
  rw [rkM_fin, if_neg ht]
  congr 1
  exact (can_eq c2 hc).1 (e2.trans e)
/-- the sum of two halves of neighbours is one of both -/
theorem mid_ex {s m1 q1 m2 q2 T P T' P' : Int} (h1 : (Fl.fin s m1 q1).ok) (h2 : (Fl.fin s m2 q2).ok) (p1 : 0 < m1) (p2' : 0 < m2) (c : Can T P) (c' : Can T' P') (hr : rkA T' P' = rkA T P + 1) (hT : 4503599627370496 ≤ T)
    (e : 2 * (m1 * G q1) + 2 * (m2 * G q2) = T * G P + T' * G P') : ∃ M Q, addM (.fin s m1 q1) (.fin s m2 q2) = .fin s M Q ∧ (rkM (.fin s M Q) = s * rkA T P ∨ rkM (.fin s M Q) = s * (rkA T P + 1)) := by
  obtain ⟨a1, _⟩ := ok_p h1
  obtain ⟨a2, _⟩ := ok_p h2
  have uv := can_up c c' hr
  have g0 := G_pos 0
  have B0 := Int.mul_pos (ratB_pos q1) (ratB_pos q2)
  have s1 : ∀ m q : Int, ratT s m q = s * ratT 1 m q := fun m q => by
    unfold ratT
    split <;> rw [Int.one_mul]
  have hT1 : ratT s m1 q1 * ratB q2 + ratT s m2 q2 * ratB q1 = s * (ratT 1 m1 q1 * ratB q2 + ratT 1 m2 q2 * ratB q1) := by
    rw [s1, s1 m2, Int.mul_add, Int.mul_assoc, Int.mul_assoc]
  have r1 := ratT_G (s := 1) (t := m1) (p := q1) (by omega)
  have r2 := ratT_G (s := 1) (t := m2) (p := q2) (by omega)
  have hv : (ratT 1 m1 q1 * ratB q2 + ratT 1 m2 q2 * ratB q1) * G 0 = (m1 * G q1 + m2 * G q2) * (ratB q1 * ratB q2) := by
    rw [Int.add_mul, Int.mul_right_comm, r1, Int.mul_right_comm (ratT 1 m2 q2), r2, Int.add_mul, Int.one_mul, Int.one_mul]
    congr 1
    · simp only [Int.mul_assoc]
    · simp only [Int.mul_assoc, Int.mul_comm, Int.mul_left_comm]
  have gp := G_pred (e := P) (by have := c.p0; omega)
  have hX : m1 * G q1 + m2 * G q2 = (2 * T + 1) * G (P - 1) := by
    rw [uv] at e
    have : T * G P + (T + 1) * G P = 2 * ((2 * T + 1) * G (P - 1)) := by
      rw [← Int.add_mul, gp, Int.mul_left_comm, show T + (T + 1) = 2 * T + 1 by omega]
    omega
  have tb := top_bits h1 h2
  rw [hT1] at tb
  generalize hτ : ratT 1 m1 q1 * ratB q2 + ratT 1 m2 q2 * ratB q1 = τ at *
  have hτ0 : 0 < τ := by
    have k1 := Int.mul_pos (Int.add_pos (Int.mul_pos p1 (G_pos q1)) (Int.mul_pos p2' (G_pos q2))) B0
    rw [← hv] at k1
    rcases Int.lt_or_le 0 τ with k | k
    · exact k
    · have := Int.mul_le_mul_of_nonneg_right k (Int.le_of_lt g0)
      rw [Int.zero_mul] at this
      omega
  have bτ : bits τ ≤ 2800 := by
    have := absI_bits (s * τ)
    rw [absT h1.1 (Int.le_of_lt hτ0)] at this
    omega
  have n := near_wh hτ0 B0 bτ
  rw [hX, Int.mul_assoc] at hv
  obtain ⟨hp, hW⟩ := near_mid n B0 hT c.t1 c.p0 hv
  have eadd : addM (.fin s m1 q1) (.fin s m2 q2) = nearM s τ (ratB q1 * ratB q2) := by
    rw [addM_ff, if_neg (fun z => by omega), hT1]
    have e1 : (if s * τ < 0 then -(s * τ) else s * τ) = τ := absT h1.1 (Int.le_of_lt hτ0)
    have e2 : (if s * τ < 0 then (-1 : Int) else 1) = s := sgT h1.1 hτ0
    rw [e1, e2]
  have okn := nearM_ok (s := s) (t := τ) (b := ratB q1 * ratB q2) h1.1 (Int.le_of_lt hτ0) B0
  rw [eadd]
  have t1 := c.t1
  have pu := c.p1
  have lt := c'.lt
  rw [hr] at lt
  have hbw : ¬ 1024 < bits (wh τ (ratB q1 * ratB q2)) + p2 τ (ratB q1 * ratB q2) := by
    rw [hp]
    have b54 : bits (wh τ (ratB q1 * ratB q2)) ≤ ((54 : Nat) : Int) := (bits_lt_pow n.w0).2 (by rw [show (2 : Int) ^ 54 = 18014398509481984 by decide]; have := n.w1; omega)
    by_cases k : wh τ (ratB q1 * ratB q2) < 9007199254740992
    · have := (bits_lt_pow (k := 53) n.w0).2 k
      omega
    · have hT3 : T = 9007199254740991 := by omega
      subst hT3
      unfold rkA at lt
      omega
  have enr : nearM s τ (ratB q1 * ratB q2) = .fin s (red (wh τ (ratB q1 * ratB q2)) P).1 (red (wh τ (ratB q1 * ratB q2)) P).2 := by
    unfold nearM
    rw [if_neg (by omega), if_neg hbw, hp]
  rw [enr] at okn ⊢
  have W0 : 0 < wh τ (ratB q1 * ratB q2) := by omega
  have rg := red_G W0 (p := P) (by have := c.p0; omega)
  have tn : (red (wh τ (ratB q1 * ratB q2)) P).1 ≠ 0 := fun z => by
    rw [z, Int.zero_mul] at rg
    have := Int.mul_pos W0 (G_pos P)
    omega
  refine ⟨_, _, rfl, ?_⟩
  rcases hW with k | k
  · left
    exact rk_val okn tn c (by rw [rg, k])
  · right
    rw [← hr]
    exact rk_val okn tn c' (by rw [rg, k, uv])
end Nu

set_option Elab.async false
set_option linter.all false
set_option maxRecDepth 100000
set_option maxHeartbeats 4000000
set_option autoImplicit false
/-! Lowest terms; what is rounded to a float. -/
namespace Nu
open PySem L2
/-! ### lowest terms -/
def gg (t b : Int) : Int := (Int.gcd t b : Int)
def lowM (t b : Int) : Int × Int := (t / gg t b, b / gg t b)
theorem gg_pos {t b : Int} (hb : 0 < b) : 0 < gg t b := by
  have := Int.gcd_pos_of_ne_zero_right t (b := b) (by omega)
  unfold gg
  omega
structure LowD (t b x y : Int) : Prop where
  e : x * b = t * y
  y0 : 0 < y
  yb : y ≤ b
  xt : x.natAbs ≤ t.natAbs
  co : Int.gcd x y = 1
theorem low_d {t b : Int} (hb : 0 < b) : LowD t b (lowM t b).1 (lowM t b).2 := by
  have g0 := gg_pos (t := t) hb
  obtain ⟨x, hx⟩ := Int.gcd_dvd_left t b
  obtain ⟨y, hy⟩ := Int.gcd_dvd_right t b
  have g0' : ((Int.gcd t b : Nat) : Int) ≠ 0 := by
    unfold gg at g0
    omega
  have ex : (lowM t b).1 = x := by
    show t / ((Int.gcd t b : Nat) : Int) = x
    have := Int.mul_ediv_cancel_left x g0'
    rwa [← hx] at this
  have ey : (lowM t b).2 = y := by
    show b / ((Int.gcd t b : Nat) : Int) = y
    have := Int.mul_ediv_cancel_left y g0'
    rwa [← hy] at this
  have co := Int.gcd_ediv_gcd_ediv_gcd (i := t) (j := b) (by unfold gg at g0; omega)
  have ex' : t / ((Int.gcd t b : Nat) : Int) = x := ex
  have ey' : b / ((Int.gcd t b : Nat) : Int) = y := ey
  rw [ex', ey'] at co
  rw [ex, ey]
  have hg : 1 ≤ ((Int.gcd t b : Nat) : Int) := by unfold gg at g0; omega
  generalize ((Int.gcd t b : Nat) : Int) = g at hx hy hg
  have y0 : 0 < y := by
    rcases Int.lt_or_le 0 y with c | c
    · exact c
    · have := Int.mul_le_mul_of_nonneg_left c (show 0 ≤ g by omega)
      rw [Int.mul_zero, ← hy] at this
      omega
  refine ⟨?_, y0, ?_, ?_, co⟩
  · rw [hx, hy]
    simp only [Int.mul_assoc, Int.mul_comm, Int.mul_left_comm]
  · have := Int.mul_le_mul_of_nonneg_right hg (Int.le_of_lt y0)
    omega
  · rw [hx, Int.natAbs_mul]
    have := Nat.mul_le_mul_right x.natAbs (show 1 ≤ g.natAbs by omega)
    omega
theorem co_dvd {a b c : Int} (h : a ∣ b * c) (co : Int.gcd a b = 1) : a ∣ c := by
  have h1 : a.natAbs ∣ b.natAbs * c.natAbs := by
    rw [← Int.natAbs_mul]
    exact Int.natAbs_dvd_natAbs.2 h
  exact Int.natAbs_dvd_natAbs.1 (Nat.Coprime.dvd_of_dvd_mul_left co h1)
theorem low_uniq {x y x' y' : Int} (h : Int.gcd x y = 1) (h' : Int.gcd x' y' = 1) (y0 : 0 < y) (y0' : 0 < y') (e : x * y' = x' * y) : x = x' ∧ y = y' := by
  have a : y ∣ y' := co_dvd (b := x) (by rw [e]; exact Int.dvd_mul_left _ _) (by rw [Int.gcd_comm]; exact h)
  have b : y' ∣ y := co_dvd (b := x') (by rw [← e]; exact Int.dvd_mul_left _ _) (by rw [Int.gcd_comm]; exact h')
  have ey := Int.dvd_antisymm (Int.le_of_lt y0) (Int.le_of_lt y0') a b
  subst ey
  exact ⟨Int.eq_of_mul_eq_mul_right (by omega) e, rfl⟩
theorem low_eq {t b t' b' : Int} (hb : 0 < b) (hb' : 0 < b') (e : t * b' = t' * b) : lowM t b = lowM t' b' := by
  have d := low_d (t := t) hb
  have d' := low_d (t := t') hb'
  have hx : (lowM t b).1 * (lowM t' b').2 = (lowM t' b').1 * (lowM t b).2 := by
    have e1 := d.e
    have e2 := d'.e
    generalize (lowM t b).1 = x at *
    generalize (lowM t b).2 = y at *
    generalize (lowM t' b').1 = x' at *
    generalize (lowM t' b').2 = y' at *
    refine Int.eq_of_mul_eq_mul_right (show b * b' ≠ 0 by have := Int.mul_pos hb hb'; omega) ?_
    have a1 : x * y' * (b * b') = x * b * (y' * b') := by simp only [Int.mul_assoc, Int.mul_comm, Int.mul_left_comm]
    have a2 : x' * y * (b * b') = x' * b' * (y * b) := by simp only [Int.mul_assoc, Int.mul_comm, Int.mul_left_comm]
    rw [a1, a2, e1, e2]
    have a3 : t * y * (y' * b') = t * b' * (y * y') := by simp only [Int.mul_assoc, Int.mul_comm, Int.mul_left_comm]
    have a4 : t' * y' * (y * b) = t' * b * (y * y') := by simp only [Int.mul_assoc, Int.mul_comm, Int.mul_left_comm]
    rw [a3, a4, e]
  obtain ⟨k1, k2⟩ := low_uniq d.co d'.co d.y0 d'.y0 hx
  exact Prod.ext k1 k2
theorem low_id {t b : Int} (hb : 0 < b) (h : Int.gcd t b = 1) : lowM t b = (t, b) := by
  unfold lowM gg
  rw [h]
  show (t / 1, b / 1) = (t, b)
  rw [Int.ediv_one, Int.ediv_one]
/-! ### values of ranks -/
def V (n : Int) : Int := (n - kOf n * 4503599627370496) * G (kOf n + -1074)
def Tk (n : Int) : Int := n - kOf n * 4503599627370496
theorem kOf_c {n : Int} (h : 0 ≤ n) : (n < 9007199254740992 ∧ kOf n = 0) ∨ (9007199254740992 ≤ n ∧ kOf n = n / 4503599627370496 - 1) := by
  unfold kOf
  split
  · exact .inl ⟨by omega, rfl⟩
  · by_cases c : n / 4503599627370496 = 1
    · exact .inl ⟨by omega, by omega⟩
    · exact .inr ⟨by omega, rfl⟩
theorem V_succ {n : Int} (h : 0 ≤ n) : V (n + 1) = (Tk n + 1) * G (kOf n + -1074) := by
  unfold V Tk
  rcases kOf_c h with ⟨c, e⟩ | ⟨c, e⟩ <;> rcases kOf_c (show 0 ≤ n + 1 by omega) with ⟨c', e'⟩ | ⟨c', e'⟩
  · rw [e, e']
    congr 1
    omega
  · have hn : n = 9007199254740991 := by omega
    subst hn
    have e' : kOf (9007199254740991 + 1) = 1 := by rw [e']; decide
    rw [e, e', show (1 : Int) + -1074 = 0 + -1074 + 1 by decide, G_succ (by decide)]
    omega
  · omega
  · by_cases k : (n + 1) / 4503599627370496 = n / 4503599627370496
    · rw [e', k, ← e]
      congr 1
      omega
    · have k2 : (n + 1) / 4503599627370496 = n / 4503599627370496 + 1 := by omega
      have ek : kOf (n + 1) = kOf n + 1 := by omega
      rw [ek, show kOf n + 1 + -1074 = kOf n + -1074 + 1 by omega, G_succ (by omega)]
      have a1 : n + 1 - (kOf n + 1) * 4503599627370496 = 4503599627370496 := by omega
      have a2 : n - kOf n * 4503599627370496 + 1 = 9007199254740992 := by omega
      rw [a1, a2]
      omega
theorem V_Tk (n : Int) : V n = Tk n * G (kOf n + -1074) := rfl
theorem V_step {n : Int} (h : 0 ≤ n) : V (n + 1) = V n + G (kOf n + -1074) := by rw [V_succ h, V_Tk, Int.add_mul, Int.one_mul]
theorem V_zero : V 0 = 0 := by
  have : kOf 0 = 0 := by decide
  unfold V
  rw [this, Int.zero_mul, Int.sub_zero, Int.zero_mul]
def sI (r : Int) : Int := if r < 0 then -1 else 1
def aI (r : Int) : Int := if r < 0 then -r else r
def vR (r : Int) : Int := sI r * V (aI r)
theorem vR_pos {r : Int} (h : 0 ≤ r) : vR r = V r := by
  unfold vR sI aI
  rw [if_neg (by omega), if_neg (by omega), Int.one_mul]
theorem vR_neg {r : Int} (h : r ≤ 0) : vR r = - V (-r) := by
  unfold vR sI aI
  by_cases c : r < 0
  · rw [if_pos c, if_pos c, Int.neg_mul, Int.one_mul]
  · have : r = 0 := by omega
    subst this
    rw [if_neg c, if_neg c, Int.one_mul]
    show V 0 = - V (-0)
    rw [Int.neg_zero, V_zero, Int.neg_zero]
/-- twice the border below -/
def Mb (r : Int) : Int := vR (r - 1) + vR r
/-- the place of the step below r -/
def stp (r : Int) : Int := if 0 < r then r - 1 else -r
theorem vR_step (r : Int) : vR r = vR (r - 1) + G (kOf (stp r) + -1074) := by
  unfold stp
  by_cases c : 0 < r
  · rw [if_pos c, vR_pos (show 0 ≤ r by omega), vR_pos (show 0 ≤ r - 1 by omega)]
    have := V_step (n := r - 1) (by omega)
    rwa [show r - 1 + 1 = r by omega] at this
  · rw [if_neg c, vR_neg (show r ≤ 0 by omega), vR_neg (show r - 1 ≤ 0 by omega)]
    have := V_step (n := -r) (by omega)
    rw [show -r + 1 = -(r - 1) by omega] at this
    omega
theorem vR_lt (r : Int) : vR (r - 1) < vR r := by
  have := vR_step r
  have := G_pos (kOf (stp r) + -1074)
  omega
theorem Mb_lt (r : Int) : Mb r < Mb (r + 1) := by
  have h1 := vR_lt r
  have h2 := vR_lt (r + 1)
  unfold Mb
  rw [show r + 1 - 1 = r by omega] at h2 ⊢
  omega
theorem Mb_gap (r : Int) : G (kOf (stp r) + -1074) ≤ Mb (r + 1) - Mb r := by
  have h1 := vR_step r
  have h2 := vR_lt (r + 1)
  unfold Mb
  rw [show r + 1 - 1 = r by omega] at h2 ⊢
  omega
theorem Mb_odd (r : Int) : ∃ s, (s = 1 ∨ s = -1) ∧ Mb r = s * (2 * Tk (stp r) + 1) * G (kOf (stp r) + -1074) := by
  unfold stp Mb
  by_cases c : 0 < r
  · rw [if_pos c, vR_pos (show 0 ≤ r by omega), vR_pos (show 0 ≤ r - 1 by omega)]
    have h := V_succ (n := r - 1) (by omega)
    rw [show r - 1 + 1 = r by omega] at h
    refine ⟨1, .inl rfl, ?_⟩
    rw [h, V_Tk, ← Int.add_mul, Int.one_mul]
    congr 1
    omega
  · rw [if_neg c, vR_neg (show r ≤ 0 by omega), vR_neg (show r - 1 ≤ 0 by omega)]
    have h := V_succ (n := -r) (by omega)
    rw [show -r + 1 = -(r - 1) by omega] at h
    refine ⟨-1, .inr rfl, ?_⟩
    rw [h, V_Tk, Int.neg_mul, Int.one_mul, Int.neg_mul, ← Int.neg_add, ← Int.add_mul]
    congr 2
    omega
/-! ### what is rounded to a rank -/
def Blw (n d r : Int) : Int := 2 * n * G 0 - Mb r * d
def irM (n d r : Int) : Bool := (decide (0 < Blw n d r) && decide (Blw n d (r + 1) < 0)) || (decide (r % 2 = 0) && (decide (0 ≤ Blw n d r) && decide (Blw n d (r + 1) ≤ 0)))
theorem Blw_lt {n d : Int} (hd : 0 < d) (r : Int) : Blw n d (r + 1) < Blw n d r := by
  have := Int.mul_lt_mul_of_pos_right (Mb_lt r) hd
  unfold Blw
  omega
theorem ir_excl {n d r : Int} (hd : 0 < d) (h : irM n d r = true) : irM n d (r - 1) = false ∧ irM n d (r + 1) = false := by
  have l1 := Blw_lt (n := n) hd r
  have l2 := Blw_lt (n := n) hd (r - 1)
  have l3 := Blw_lt (n := n) hd (r + 1)
  unfold irM at h ⊢
  rw [show r - 1 + 1 = r by omega] at l2 ⊢
  simp only [Bool.or_eq_true, Bool.and_eq_true, decide_eq_true_eq, Bool.or_eq_false_iff, Bool.and_eq_false_iff, decide_eq_false_iff_not] at h ⊢
  omega
/-- a border -/
theorem ir_low {n d r : Int} (hd : 0 < d) (h : Blw n d r = 0) : irM n d r = decide (r % 2 = 0) ∧ irM n d (r - 1) = decide ((r - 1) % 2 = 0) := by
  have l1 := Blw_lt (n := n) hd r
  have l2 := Blw_lt (n := n) hd (r - 1)
  unfold irM
  rw [show r - 1 + 1 = r by omega] at l2 ⊢
  rw [h] at l1 l2 ⊢
  constructor
  · rw [decide_eq_false (show ¬ (0 : Int) < 0 by decide), Bool.false_and, Bool.false_or, decide_eq_true (show (0 : Int) ≤ 0 by decide), decide_eq_true (show Blw n d (r + 1) ≤ 0 by omega), Bool.and_self, Bool.and_true]
  · rw [decide_eq_false (show ¬ (0 : Int) < 0 by decide), Bool.and_false, Bool.false_or, decide_eq_true (show (0 : Int) ≤ 0 by decide), decide_eq_true (show 0 ≤ Blw n d (r - 1) by omega), Bool.and_self, Bool.and_true]
theorem Blw_cross {n d n' d' : Int} (hd : 0 < d) (hd' : 0 < d') (e : n * d' = n' * d) (r : Int) : Blw n d r * d' = Blw n' d' r * d := by
  unfold Blw
  rw [Int.sub_mul, Int.sub_mul]
  have a1 : 2 * n * G 0 * d' = 2 * (n * d') * G 0 := by simp only [Int.mul_assoc, Int.mul_comm, Int.mul_left_comm]
  have a2 : 2 * n' * G 0 * d = 2 * (n' * d) * G 0 := by simp only [Int.mul_assoc, Int.mul_comm, Int.mul_left_comm]
  rw [a1, a2, e]
  congr 1
  simp only [Int.mul_assoc, Int.mul_comm, Int.mul_left_comm]
theorem sg_mul' {x d : Int} (hd : 0 < d) : (0 < x * d ↔ 0 < x) ∧ (x * d < 0 ↔ x < 0) := by
  constructor
  · constructor
    · intro h
      rcases Int.lt_or_le 0 x with c | c
      · exact c
      · have := Int.mul_le_mul_of_nonneg_right c (Int.le_of_lt hd)
        omega
    · intro h
      exact Int.mul_pos h hd
  · constructor
    · intro h
      rcases Int.lt_or_le x 0 with c | c
      · exact c
      · have := Int.mul_nonneg c (Int.le_of_lt hd)
        omega
    · intro h
      exact Int.mul_neg_of_neg_of_pos h hd
theorem ir_cross {n d n' d' : Int} (hd : 0 < d) (hd' : 0 < d') (e : n * d' = n' * d) (r : Int) : irM n d r = irM n' d' r := by
  have e1 := Blw_cross hd hd' e r
  have e2 := Blw_cross hd hd' e (r + 1)
  have a1 := sg_mul' (x := Blw n d r) hd'
  have a2 := sg_mul' (x := Blw n' d' r) hd
  have b1 := sg_mul' (x := Blw n d (r + 1)) hd'
  have b2 := sg_mul' (x := Blw n' d' (r + 1)) hd
  rw [e1] at a1
  rw [e2] at b1
  unfold irM
  have k1 : decide (0 < Blw n d r) = decide (0 < Blw n' d' r) := decide_eq_decide.2 (by omega)
  have k2 : decide (0 ≤ Blw n d r) = decide (0 ≤ Blw n' d' r) := decide_eq_decide.2 (by omega)
  have k3 : decide (Blw n d (r + 1) < 0) = decide (Blw n' d' (r + 1) < 0) := decide_eq_decide.2 (by omega)
  have k4 : decide (Blw n d (r + 1) ≤ 0) = decide (Blw n' d' (r + 1) ≤ 0) := decide_eq_decide.2 (by omega)
  rw [k1, k2, k3, k4]
end Nu

set_option Elab.async false
set_option linter.all false
set_option maxRecDepth 100000
set_option maxHeartbeats 4000000
set_option autoImplicit false
namespace Nu
open PySem L2
theorem vR_odd (r : Int) : vR (-r) = - vR r := by
  by_cases c : 0 ≤ r
  · rw [vR_pos c, vR_neg (show -r ≤ 0 by omega), Int.neg_neg]
  · rw [vR_neg (show r ≤ 0 by omega), vR_pos (show 0 ≤ -r by omega), Int.neg_neg]
theorem Mb_neg (r : Int) : Mb (-r) = - Mb (r + 1) := by
  unfold Mb
  rw [show r + 1 - 1 = r by omega, show -r - 1 = -(r + 1) by omega, vR_odd, vR_odd]
  omega
theorem Blw_neg (n d r : Int) : Blw (-n) d (-r) = - Blw n d (r + 1) := by
  unfold Blw
  rw [Mb_neg, Int.mul_neg, Int.neg_mul, Int.neg_mul]
  omega
theorem ir_neg (n d r : Int) : irM (-n) d (-r) = irM n d r := by
  have e1 := Blw_neg n d r
  have e2 := Blw_neg n d (r - 1)
  rw [show -(r - 1) = -r + 1 by omega, show r - 1 + 1 = r by omega] at e2
  unfold irM
  rw [e1, e2]
  have k1 : decide (0 < -Blw n d (r + 1)) = decide (Blw n d (r + 1) < 0) := decide_eq_decide.2 (by omega)
  have k2 : decide (-Blw n d r < 0) = decide (0 < Blw n d r) := decide_eq_decide.2 (by omega)
  have k3 : decide (0 ≤ -Blw n d (r + 1)) = decide (Blw n d (r + 1) ≤ 0) := decide_eq_decide.2 (by omega)
  have k4 : decide (-Blw n d r ≤ 0) = decide (0 ≤ Blw n d r) := decide_eq_decide.2 (by omega)
  have k5 : decide (-r % 2 = 0) = decide (r % 2 = 0) := decide_eq_decide.2 (by omega)
  rw [k1, k2, k3, k4, k5, Bool.and_comm (decide (Blw n d (r + 1) < 0)), Bool.and_comm (decide (Blw n d (r + 1) ≤ 0))]
theorem can_uniq {T P T' P' : Int} (c : Can T P) (c' : Can T' P') (h : rkA T P = rkA T' P') : T = T' ∧ P = P' := by
  have a1 := c.t0
  have a2 := c.t1
  have b1 := c'.t0
  have b2 := c'.t1
  have p0 := c.p0
  have p0' := c'.p0
  have k1 := c.c
  have k2 := c'.c
  unfold rkA at h
  rcases Int.lt_trichotomy P P' with k | k | k
  · have := k2 (by omega); omega
  · omega
  · have := k1 (by omega); omega
theorem rkA_even (T P : Int) : rkA T P % 2 = 0 ↔ T % 2 = 0 := by
  unfold rkA
  omega
/-- what lies around a canonical float -/
theorem V_can {T P : Int} (c : Can T P) : V (rkA T P) = T * G P ∧ V (rkA T P + 1) = (T + 1) * G P ∧
    ((V (rkA T P - 1) = (T - 1) * G P) ∨ (T = 4503599627370496 ∧ -1074 < P ∧ V (rkA T P - 1) = T * G P - G (P - 1))) := by
  have pos := c.pos
  have lt := c.lt
  obtain ⟨cn, e⟩ := rank_can pos lt
  obtain ⟨eT, eP⟩ := can_uniq cn c e
  have a1 : V (rkA T P) = T * G P := by
    unfold V
    rw [eT, eP]
  have a2 : V (rkA T P + 1) = (T + 1) * G P := by
    rw [V_succ (Int.le_of_lt pos)]
    unfold Tk
    rw [eT, eP]
  refine ⟨a1, a2, ?_⟩
  have st := V_step (n := rkA T P - 1) (by omega)
  rw [show rkA T P - 1 + 1 = rkA T P by omega, a1] at st
  have kk : kOf (rkA T P - 1) + -1074 = P ∨ (T = 4503599627370496 ∧ -1074 < P ∧ kOf (rkA T P - 1) + -1074 = P - 1) := by
    have h1 := kOf_c (n := rkA T P) (by omega)
    have h2 := kOf_c (n := rkA T P - 1) (by omega)
    have t0 := c.t0
    have t1 := c.t1
    have cc := c.c
    unfold rkA at h1 h2 eT ⊢
    by_cases k : T = 4503599627370496 ∧ -1074 < P
    · right
      refine ⟨k.1, k.2, ?_⟩
      omega
    · left
      by_cases k2 : -1074 < P
      · have := cc k2
        omega
      · omega
  rcases kk with k | ⟨k1, k2, k3⟩
  · left
    rw [k] at st
    rw [Int.sub_mul, Int.one_mul]
    omega
  · right
    rw [k3] at st
    exact ⟨k1, k2, by omega⟩
/-- the nearest float is what is rounded to -/
theorem near_ir {t b W p : Int} (n : Near t b W p) (hb : 0 < b) (hW : 0 < W) (hp : p ≤ 971) (hp2 : 9007199254740992 ≤ W → p ≤ 970) : ∃ T P, Can T P ∧ T * G P = W * G p ∧ irM t b (rkA T P) = true := by
  have p0 := n.p0
  have gp := G_pred (e := p) (by omega)
  have D1 : 0 < G (p - 1) * b := Int.mul_pos (G_pos _) hb
  have bigw := near_w n hb
  have fin : ∀ {m : Int}, 0 ≤ Blw t b m → Blw t b (m + 1) ≤ 0 → (Blw t b m = 0 → m % 2 = 0) → (Blw t b (m + 1) = 0 → m % 2 = 0) → irM t b m = true := by
    intro m h1 h2 h3 h4
    unfold irM
    simp only [Bool.or_eq_true, Bool.and_eq_true, decide_eq_true_eq]
    omega
  rcases Int.lt_or_le W 9007199254740992 with c | c
  · have cn : Can W p := ⟨hW, c, p0, by omega, bigw⟩
    obtain ⟨v0, v1, v2⟩ := V_can cn
    refine ⟨W, p, cn, rfl, ?_⟩
    have ev := rkA_even W p
    have pos := cn.pos
    have eU : Mb (rkA W p + 1) * b = 2 * ((2 * W + 1) * (G (p - 1) * b)) := by
      unfold Mb
      rw [show rkA W p + 1 - 1 = rkA W p by omega, vR_pos (by omega), vR_pos (by omega), v0, v1, ← Int.add_mul, gp, show W + (W + 1) = 2 * W + 1 by omega]
      simp only [Int.mul_assoc, Int.mul_comm, Int.mul_left_comm]
    have bu : Blw t b (rkA W p + 1) = 2 * (t * G 0) - 2 * ((2 * W + 1) * (G (p - 1) * b)) := by
      unfold Blw
      rw [eU, Int.mul_assoc]
    have a := n.a
    have ae := n.ae
    rcases v2 with v2 | ⟨k1, k2, v2⟩
    · have eL : Mb (rkA W p) * b = 2 * ((2 * W - 1) * (G (p - 1) * b)) := by
        unfold Mb
        rw [vR_pos (by omega), vR_pos (by omega), v0, v2, ← Int.add_mul, gp, show W - 1 + W = 2 * W - 1 by omega]
        simp only [Int.mul_assoc, Int.mul_comm, Int.mul_left_comm]
      have bl : Blw t b (rkA W p) = 2 * (t * G 0) - 2 * ((2 * W - 1) * (G (p - 1) * b)) := by
        unfold Blw
        rw [eL, Int.mul_assoc]
      have l := n.l
      have le := n.le
      exact fin (by omega) (by omega) (fun h => ev.2 (le (by omega))) (fun h => ev.2 (ae (by omega)))
    · have eL : Mb (rkA W p) * b = 4 * W * (G (p - 1) * b) - G (p - 1) * b := by
        unfold Mb
        rw [vR_pos (by omega), vR_pos (by omega), v0, v2, gp]
        rw [show W * (2 * G (p - 1)) - G (p - 1) + W * (2 * G (p - 1)) = 4 * W * G (p - 1) - G (p - 1) by
          rw [Int.mul_left_comm, Int.mul_assoc]; omega, Int.sub_mul, Int.mul_assoc]
      have bl : Blw t b (rkA W p) = 2 * (t * G 0) - (4 * W * (G (p - 1) * b) - G (p - 1) * b) := by
        unfold Blw
        rw [eL, Int.mul_assoc]
      have cc := n.c k2
      rw [gp] at cc
      have c2 : 4503599627370496 * (2 * G (p - 1) * b) = 2 * (W * (G (p - 1) * b)) := by
        rw [k1, Int.mul_assoc, Int.mul_left_comm]
      have c3 : 4 * W * (G (p - 1) * b) = 4 * (W * (G (p - 1) * b)) := Int.mul_assoc _ _ _
      exact fin (by omega) (by omega) (fun h => by omega) (fun h => ev.2 (ae (by omega)))
  · have hp2 := hp2 c
    have hW2 : W = 9007199254740992 := by have := n.w1; omega
    subst hW2
    have cn : Can 4503599627370496 (p + 1) := ⟨by decide, by decide, by omega, by omega, fun _ => Int.le_refl _⟩
    obtain ⟨v0, v1, v2⟩ := V_can cn
    have gs := G_succ (e := p) (by omega)
    have gD : ∀ x : Int, x * (G p * b) = 2 * (x * (G (p - 1) * b)) := fun x => by rw [gp]; simp only [Int.mul_assoc, Int.mul_comm, Int.mul_left_comm]
    refine ⟨_, _, cn, by rw [gs]; omega, ?_⟩
    have ev : rkA 4503599627370496 (p + 1) % 2 = 0 := (rkA_even _ _).2 (by decide)
    have pos := cn.pos
    have eU : Mb (rkA 4503599627370496 (p + 1) + 1) * b = 2 * (18014398509481986 * (G (p - 1) * b)) := by
      unfold Mb
      rw [show rkA 4503599627370496 (p + 1) + 1 - 1 = rkA 4503599627370496 (p + 1) by omega, vR_pos (by omega), vR_pos (by omega), v0, v1, gs, ← gD]
      rw [show (4503599627370496 : Int) * (2 * G p) + (4503599627370496 + 1) * (2 * G p) = 18014398509481986 * G p by omega, Int.mul_assoc]
    have bu : Blw t b (rkA 4503599627370496 (p + 1) + 1) = 2 * (t * G 0) - 2 * (18014398509481986 * (G (p - 1) * b)) := by
      unfold Blw
      rw [eU, Int.mul_assoc]
    have a := n.a
    have v2' : V (rkA 4503599627370496 (p + 1) - 1) = 9007199254740991 * G p ∨ V (rkA 4503599627370496 (p + 1) - 1) = 9007199254740990 * G p := by
      rcases v2 with h | ⟨_, _, h⟩
      · right
        rw [h, gs]
        omega
      · left
        rw [h, gs, show p + 1 - 1 = p by omega]
        omega
    have l := n.l
    rcases v2 with h | ⟨_, _, h⟩
    · -- impossible, but the border is lower still
      have eL : Mb (rkA 4503599627370496 (p + 1)) * b = 2 * (18014398509481982 * (G (p - 1) * b)) := by
        unfold Mb
        rw [vR_pos (by omega), vR_pos (by omega), v0, h, gs, ← gD]
        rw [show ((4503599627370496 : Int) - 1) * (2 * G p) + 4503599627370496 * (2 * G p) = 18014398509481982 * G p by omega, Int.mul_assoc]
      have bl : Blw t b (rkA 4503599627370496 (p + 1)) = 2 * (t * G 0) - 2 * (18014398509481982 * (G (p - 1) * b)) := by
        unfold Blw
        rw [eL, Int.mul_assoc]
      exact fin (by omega) (by omega) (fun _ => ev) (fun _ => ev)
    · have eL : Mb (rkA 4503599627370496 (p + 1)) * b = 2 * (18014398509481983 * (G (p - 1) * b)) := by
        unfold Mb
        rw [vR_pos (by omega), vR_pos (by omega), v0, h, gs, ← gD, show p + 1 - 1 = p by omega]
        rw [show (4503599627370496 : Int) * (2 * G p) - G p + 4503599627370496 * (2 * G p) = 18014398509481983 * G p by omega, Int.mul_assoc]
      have bl : Blw t b (rkA 4503599627370496 (p + 1)) = 2 * (t * G 0) - 2 * (18014398509481983 * (G (p - 1) * b)) := by
        unfold Blw
        rw [eL, Int.mul_assoc]
      exact fin (by omega) (by omega) (fun _ => ev) (fun _ => ev)
/-! ### just above a border -/
theorem pow_dvd_odd : ∀ (k : Nat) {x o y : Int}, o % 2 = 1 → 2 ^ k * x = o * y → 0 < y → 2 ^ k ≤ y := by
  intro k
  induction k with
  | zero =>
    intro x o y ho e hy
    rw [Int.pow_zero]
    omega
  | succ k ih =>
    intro x o y ho e hy
    have e2 : o * y = 2 * (2 ^ k * x) := by rw [← e, Int.pow_succ]; simp only [Int.mul_assoc, Int.mul_comm, Int.mul_left_comm]
    have hy2 : y % 2 = 0 := by
      have h1 : (o * y) % 2 = 0 := by omega
      rw [Int.mul_emod, ho, Int.one_mul, Int.emod_emod] at h1
      exact h1
    obtain ⟨z, hz⟩ : ∃ z, y = 2 * z := ⟨y / 2, by omega⟩
    rw [hz, Int.mul_left_comm] at e2
    have := ih (x := x) (y := z) ho (by omega) (by omega)
    rw [Int.pow_succ]
    omega
theorem above_low {ln ld r : Int} (hd : 0 < ld) (h : 2 * ln * G 0 = Mb r * ld) : 0 < Blw (ln * 2 ^ 80 + 1) (ld * 2 ^ 80) r ∧ Blw (ln * 2 ^ 80 + 1) (ld * 2 ^ 80) (r + 1) < 0 := by
  have g0 := G_pos 0
  have e1 : ∀ r', Blw (ln * 2 ^ 80 + 1) (ld * 2 ^ 80) r' = (2 * ln * G 0 - Mb r' * ld) * 2 ^ 80 + 2 * G 0 := fun r' => by
    unfold Blw
    rw [Int.sub_mul, Int.mul_add, Int.add_mul, Int.mul_one]
    have a1 : 2 * (ln * 2 ^ 80) * G 0 = 2 * ln * G 0 * 2 ^ 80 := by simp only [Int.mul_assoc, Int.mul_comm, Int.mul_left_comm]
    have a2 : Mb r' * (ld * 2 ^ 80) = Mb r' * ld * 2 ^ 80 := by simp only [Int.mul_assoc]
    rw [a1, a2]
    omega
  constructor
  · rw [e1, h, Int.sub_self, Int.zero_mul]
    omega
  · rw [e1, h]
    obtain ⟨s, hs, od⟩ := Mb_odd r
    have gap := Mb_gap r
    generalize hP : kOf (stp r) + -1074 = P at *
    have p0 : -1074 ≤ P := by
      have : 0 ≤ kOf (stp r) := by unfold kOf; split <;> omega
      omega
    have k1 : 2 * G 0 ≤ G P * ld := by
      rcases Int.lt_or_le 0 P with c | c
      · have h1 : G 1 ≤ G P := G_le (by omega)
        have h2 : G 1 = 2 * G 0 := by
          have := G_succ (e := 0) (by decide)
          rwa [show (0 : Int) + 1 = 1 from rfl] at this
        have h3 : G P * 1 ≤ G P * ld := Int.mul_le_mul_of_nonneg_left (by omega) (Int.le_of_lt (G_pos P))
        omega
      · obtain ⟨k, hk⟩ : ∃ k : Nat, P + k = 0 := ⟨(-P).toNat, by omega⟩
        have gk : G 0 = 2 ^ k * G P := by rw [← hk]; exact G_add k (by omega)
        have h1 : 2 ^ (k + 1) * (s * ln) = (2 * Tk (stp r) + 1) * ld := by
          refine Int.eq_of_mul_eq_mul_right (show G P ≠ 0 by have := G_pos P; omega) ?_
          rw [od, gk] at h
          have ss : s * s = 1 := by rcases hs with rfl | rfl <;> decide
          have h2 : 2 * (2 ^ k * G P) * (s * ln) = s * (s * (2 * Tk (stp r) + 1) * G P * ld) := by
            rw [← h]
            simp only [Int.mul_assoc, Int.mul_comm, Int.mul_left_comm]
          have h3 : s * (s * (2 * Tk (stp r) + 1) * G P * ld) = s * s * ((2 * Tk (stp r) + 1) * ld * G P) := by simp only [Int.mul_assoc, Int.mul_comm, Int.mul_left_comm]
          rw [h3, ss, Int.one_mul] at h2
          rw [← h2, Int.pow_succ]
          simp only [Int.mul_assoc, Int.mul_comm, Int.mul_left_comm]
        have h4 := pow_dvd_odd (k + 1) (by omega) h1 hd
        have h5 := Int.mul_le_mul_of_nonneg_left h4 (Int.le_of_lt (G_pos P))
        have h6 : G P * 2 ^ (k + 1) = 2 * G 0 := by
          rw [gk, Int.pow_succ]
          simp only [Int.mul_assoc, Int.mul_comm, Int.mul_left_comm]
        omega
    have k2 : G P * ld ≤ (Mb (r + 1) - Mb r) * ld := Int.mul_le_mul_of_nonneg_right gap (Int.le_of_lt hd)
    have k3 : (Mb r * ld - Mb (r + 1) * ld) = -((Mb (r + 1) - Mb r) * ld) := by rw [Int.sub_mul]; omega
    rw [k3]
    generalize (Mb (r + 1) - Mb r) * ld = z at *
    have : (2 : Int) ^ 80 = 1208925819614629174706176 := by decide
    rw [this]
    omega
end Nu

set_option Elab.async false
set_option linter.all false
set_option maxRecDepth 100000
set_option autoImplicit false
set_option maxHeartbeats 4000000
namespace Nu
open PySem PySem.Spec PyProof.Rows L2 Rd
local macro_rules | `(tactic| walk_at "hp") => `(tactic| first | assumption | (refine same_get ?sm ?_; (case sm => assumption); walk_at "hp"))
local macro_rules | `(tactic| walk_at "rd") => `(tactic| first
  | with_reducible refine w_nx ?_
  | with_reducible refine w_rt ?_
  | with_reducible refine w_bk ?_
  | with_reducible refine w_ct ?_
  | with_reducible refine w_seq ?_
  | with_reducible refine w_next ?_
  | with_reducible refine w_ret ?_
  | with_reducible refine w_ifS ?_
  | with_reducible refine w_asg ?_
  | with_reducible refine w_name ?_
  | with_reducible refine w_par ?_
  | with_reducible refine w_parI ?_
  | with_reducible refine w_ii ?_
  | with_reducible refine w_i1 ?_
  | with_reducible refine w_drop ?_
  | with_reducible refine w_sFld ?_
  | ((with_reducible refine' w_var ?rdh ?_); (case rdh => exact rfl))
  | with_reducible refine w_c ?_
  | with_reducible refine w_op ?_
  | with_reducible refine w_un ?_
  | with_reducible refine w_I0 ?_
  | with_reducible refine w_U ?_
  | with_reducible refine w_bits ?_
  | with_reducible refine w_bitsI ?_
  | with_reducible refine w_tup ?_
  | with_reducible refine w_lst ?_
  | with_reducible refine w_nil ?_
  | with_reducible refine w_cons ?_
  | with_reducible refine w_fld ?_
  | with_reducible refine w_call ?_
  | with_reducible refine w_make ?_
  | with_reducible refine w_gsub ?_
  | with_reducible refine w_int1 ?_
  | with_reducible refine w_intB ?_
  | with_reducible refine w_for ?_
  | with_reducible refine w_rng1 ?_
  | with_reducible refine w_iList ?_
  | with_reducible refine w_iTup ?_
  | with_reducible refine w_makeD ?_
  | with_reducible refine w_nn ?_
  | with_reducible refine w_subB ?_
  | with_reducible refine w_meth ?_
  | with_reducible refine w_cb ?_
  | with_reducible refine w_test ?_
  | with_reducible refine w_B ?_
  | with_reducible refine w_bl ?_
  | with_reducible refine w_andV ?_
  | with_reducible refine w_orV ?_
  | with_reducible refine w_notV ?_
  | with_reducible refine w_and ?_
  | with_reducible refine w_or ?_
  | with_reducible refine w_not ?_
  | with_reducible refine w_if ?_
  | with_reducible refine w_gnil ?_
  | with_reducible refine w_gcons ?_
  | with_reducible refine iT ?_
  | with_reducible refine iF ?_
  | with_reducible refine w_eqI ?_
  | with_reducible refine w_neI ?_
  | with_reducible refine w_eqS ?_
  | with_reducible refine w_eqIS ?_
  | with_reducible refine w_eqSI ?_)

abbrev s_lowered : Stmt := top 41
abbrev s_middle : Stmt := top 42
abbrev s_value_at : Stmt := top 43
abbrev s_is_even : Stmt := top 44
abbrev s_is_finite_float : Stmt := top 36
abbrev s_check_finite : Stmt := top 37
abbrev s_spread : Stmt := top 45
abbrev s_is_fraction : Stmt := top 46
abbrev s_is_rounded_to : Stmt := top 47
structure AllO (K : PySem.W.Frag) (mg : Str → Option Value) (CF : Addr) : Prop extends AllK K mg CF where
  b_tuple : mg "tuple" = none
  b_all : mg "all" = none
  x_lowered : Tx K mg "lowered" "lowered" s_lowered ["top", "bottom"]
  x_middle : Tx K mg "middle" "middle" s_middle ["one", "other"]
  x_value_at : Tx K mg "value_at" "value_at" s_value_at ["rank"]
  x_is_even : Tx K mg "is_even" "is_even" s_is_even ["number"]
  x_is_finite_float : Tx K mg "is_finite_float" "is_finite_float" s_is_finite_float ["thing"]
  x_check_finite : Tx K mg "check_finite" "check_finite" s_check_finite ["number", "part"]
  x_spread : Tx K mg "spread" "spread" s_spread ["number"]
  x_is_fraction : Tx K mg "is_fraction" "is_fraction" s_is_fraction ["thing"]
  x_is_rounded_to : Tx K mg "is_rounded_to" "is_rounded_to" s_is_rounded_to ["fraction", "number"]
theorem b8000 {n : Int} (h0 : 0 ≤ n) {m : Int} (h : n ≤ m) {k : Int} (hb : bits m ≤ k) : bits n ≤ k := Int.le_trans (bits_mono h0 h) hb
/-- the loop of Euclid -/
structure Eu (t b one other : Int) : Prop where
  o0 : 0 ≤ one
  o1 : 0 ≤ other
  g : Int.gcd one other = Int.gcd t b
theorem Eu.step {t b one other : Int} (h : Eu t b one other) (c : 0 < other) : Eu t b other (one % other) := by
  refine ⟨h.o1, Int.emod_nonneg _ (by omega), ?_⟩
  rw [← h.g, Int.gcd_comm one other]
  obtain ⟨m, hm⟩ := Int.eq_ofNat_of_zero_le h.o0
  obtain ⟨k, hk⟩ := Int.eq_ofNat_of_zero_le h.o1
  rw [hm, hk]
  show Nat.gcd ((k : Int)).natAbs ((m : Int) % (k : Int)).natAbs = Nat.gcd ((k : Int)).natAbs ((m : Int)).natAbs
  rw [show ((m : Int) % (k : Int)) = ((m % k : Nat) : Int) by simp, Int.natAbs_natCast, Int.natAbs_natCast, Int.natAbs_natCast, Nat.gcd_rec k m, Nat.gcd_comm]
theorem Eu.fin {t b one : Int} (h : Eu t b one 0) : one = gg t b := by
  have := h.g
  rw [Int.gcd_zero] at this
  have := h.o0
  unfold gg
  omega
theorem Eu.init (t : Int) {b : Int} (hb : 0 < b) : Eu t b (absI t) b := by
  refine ⟨absI_nn t, by omega, ?_⟩
  show Nat.gcd (absI t).natAbs b.natAbs = Nat.gcd t.natAbs b.natAbs
  congr 1
  unfold absI
  split <;> omega
theorem gg_le {t b : Int} (hb : 0 < b) : gg t b ≤ b := by
  have h1 := Int.gcd_dvd_right t b
  exact Int.le_of_dvd hb h1
section
variable {P : Program} {w : World} {K : PySem.W.Frag} {mg : Str → Option Value} {base : Heap} {CF : Addr}
def spLow : Sp := fun vs H Q _ => ∃ t b, vs = [.int t, .int b] ∧ 0 < b ∧ bits b ≤ 8000 ∧ ∀ q H', Same H H' → H' q = some (.tup [.int (lowM t b).1, .int (lowM t b).2]) → Q (.ref q) H'
theorem sc_lowered : FnScope ["top", "bottom", "one", "other"] ["top", "bottom"] (defScope s_lowered) := ⟨rfl, rfl, rfl, by decide +kernel, rfl, by decide +kernel, by decide +kernel⟩
theorem ok_lowered (T : AllO K mg CF) : Kn P w K mg base CX0 1 "lowered" ["top", "bottom"] spLow := by
  refine T.x_lowered.kn fun f fd F => ?_
  refine F.ok sc_lowered (fun vs H Q E h => ?_) (fun cdv A outer s H vs Q E hr h => ?_)
  · obtain ⟨t, b, rfl, _⟩ := h
    rfl
  · obtain ⟨t, b, rfl, hb, bb, q⟩ := h
    refine ⟨_, (pss_cons (ps_par (by rfl) sc_lowered.nd (i := 2) (j := 3) rfl rfl (by decide) rfl rfl (pa_cons (pe_callB call_abs (by rfl) T.b_abs boot_abs (pa_cons (pv 0) pa_nil)) (pa_cons (pv 1) pa_nil)) (by rfl))
      (pss_cons (ps_while PassesOwn.never (pt_cmpR op_gt (pv 3) pe_int (nomark _))
      (pss_one (ps_par (by rfl) sc_lowered.nd (i := 2) (j := 3) rfl rfl (by decide) rfl rfl (pa_cons (pv 3) (pa_cons (pe_op op_mod (pv 2) (pv 3)) pa_nil)) (by rfl))))
      (pss_one (ps_ret (pe_tup (pa_cons (pe_op op_fdivW (pv 0) (pv 2)) (pa_cons (pe_op op_fdivW (pv 1) (pv 2)) pa_nil))))))), ?_⟩
    have ea : (if t < 0 then -t else t) = absI t := rfl
    repeat walk_at "rd"
    rw [ea]
    repeat walk_at "rd"
    refine w_while (fun m σ' H' => H' = H ∧ ∃ one other, σ' = [some (.int t), some (.int b), some (.int one), some (.int other)] ∧ Eu t b one other ∧ m = other.toNat) ⟨rfl, absI t, b, rfl, Eu.init t hb, rfl⟩ ?_
    rintro m σ' H' ⟨rfl, one, other, rfl, eu, rfl⟩
    repeat walk_at "rd"
    refine iD (fun c => ?_) (fun c => ?_)
    · refine w_turn ?_
      repeat walk_at "rd"
      refine w_I (C := fun _ j => 0 < j) (i := one) (j := other) c ?_
      repeat walk_at "rd"
      have := Int.emod_lt_of_pos one c
      have := Int.emod_nonneg one (b := other) (by omega)
      exact ⟨(one % other).toNat, by omega, rfl, other, one % other, rfl, eu.step c, rfl⟩
    · have h0 : other = 0 := by have := eu.o1; omega
      subst h0
      have e1 := eu.fin
      subst e1
      have gp := gg_pos (t := t) hb
      have gb := b8000 (Int.le_of_lt gp) (gg_le (t := t) hb) bb
      repeat walk_at "rd"
      refine w_I (cdivw (i := t) (j := gg t b) gp gb) ?_
      repeat walk_at "rd"
      refine w_I (cdivw (i := b) (j := gg t b) gp gb) ?_
      repeat walk_at "rd"
      exact w_tup2 fun a1 H1 s1 n1 e1 => q a1 H1 s1 e1
theorem u_low {t b : Int} {H : Hp} {Q : VK} {E : XK} (hb : 0 < b) (bb : bits b ≤ 8000) (q : ∀ q H', Same H H' → H' q = some (.tup [.int (lowM t b).1, .int (lowM t b).2]) → Q (.ref q) H') : spLow ([V.int t, V.int b] ++ []) H Q E := ⟨t, b, rfl, hb, bb, q⟩
/-! ### values and borders -/
structure VF (n d v : Int) : Prop where
  e : n * G 0 = v * d
  d0 : 0 < d
  bn : bits n ≤ 1100
  bd : bits d ≤ 1100
structure LF (n d m : Int) : Prop where
  e : 2 * n * G 0 = m * d
  d0 : 0 < d
  co : Int.gcd n d = 1
  bn : bits n ≤ 2300
  bd : bits d ≤ 2300
theorem LF.uniq {n d n' d' m : Int} (h : LF n d m) (h' : LF n' d' m) : n = n' ∧ d = d' := by
  refine low_uniq h.co h'.co h.d0 h'.d0 ?_
  have g0 := G_pos 0
  refine Int.eq_of_mul_eq_mul_right (show 2 * G 0 ≠ 0 by omega) ?_
  have a1 : n * d' * (2 * G 0) = 2 * n * G 0 * d' := by simp only [Int.mul_assoc, Int.mul_comm, Int.mul_left_comm]
  have a2 : n' * d * (2 * G 0) = 2 * n' * G 0 * d := by simp only [Int.mul_assoc, Int.mul_comm, Int.mul_left_comm]
  rw [a1, a2, h.e, h'.e]
  simp only [Int.mul_assoc, Int.mul_comm, Int.mul_left_comm]
theorem bits_le_of {x y : Int} {k : Nat} (h : x.natAbs ≤ y.natAbs) (hb : bits y ≤ k) : bits x ≤ k := bits_le.2 (Nat.lt_of_le_of_lt h (bits_le.1 hb))
theorem VF.low {n d v : Int} (h : VF n d v) : VF (lowM n d).1 (lowM n d).2 v := by
  have l := low_d (t := n) h.d0
  have e := l.e
  have ve := h.e
  refine ⟨?_, l.y0, bits_le_of (k := 1100) l.xt h.bn, bits_le_of (k := 1100) (by have := l.yb; have := l.y0; omega) h.bd⟩
  generalize (lowM n d).1 = x at *
  generalize (lowM n d).2 = y at *
  refine Int.eq_of_mul_eq_mul_right (show d ≠ 0 by have := h.d0; omega) ?_
  have a1 : x * G 0 * d = x * d * G 0 := by simp only [Int.mul_assoc, Int.mul_comm, Int.mul_left_comm]
  have a2 : n * y * G 0 = n * G 0 * y := by simp only [Int.mul_assoc, Int.mul_comm, Int.mul_left_comm]
  rw [a1, e, a2, ve]
  simp only [Int.mul_assoc, Int.mul_comm, Int.mul_left_comm]
theorem mid_LF {n d v n' d' v' : Int} (h : VF n d v) (h' : VF n' d' v') : LF (lowM (n * d' + n' * d) (2 * d * d')).1 (lowM (n * d' + n' * d) (2 * d * d')).2 (v + v') ∧ 0 < 2 * d * d' ∧ bits (2 * d * d') ≤ 2300 := by
  have D0 : 0 < 2 * d * d' := Int.mul_pos (Int.mul_pos (by decide) h.d0) h'.d0
  have bD : bits (2 * d * d') ≤ 2300 := by
    have h1 := bits_mul (2 * d) d'
    have h2 := bits_mul 2 d
    have := h.bd
    have := h'.bd
    have : bits 2 = 2 := by decide
    omega
  have bN : bits (n * d' + n' * d) ≤ 2300 := by
    have h1 := bits_mul n d'
    have h2 := bits_mul n' d
    have := h.bn
    have := h'.bn
    have := h.bd
    have := h'.bd
    have := bits_add (a := n * d') (b := n' * d) (k := 2200) (by omega) (by omega)
    omega
  have l := low_d (t := n * d' + n' * d) D0
  have e := l.e
  refine ⟨⟨?_, l.y0, l.co, bits_le_of (k := 2300) l.xt bN, bits_le_of (k := 2300) (by have := l.yb; have := l.y0; omega) bD⟩, D0, bD⟩
  generalize (lowM (n * d' + n' * d) (2 * d * d')).1 = x at *
  generalize (lowM (n * d' + n' * d) (2 * d * d')).2 = y at *
  refine Int.eq_of_mul_eq_mul_right (show 2 * d * d' ≠ 0 by omega) ?_
  have a1 : 2 * x * G 0 * (2 * d * d') = 2 * (x * (2 * d * d')) * G 0 := by simp only [Int.mul_assoc, Int.mul_comm, Int.mul_left_comm]
  have a2 : 2 * ((n * d' + n' * d) * y) * G 0 = 2 * (n * G 0 * d' + n' * G 0 * d) * y := by
    rw [Int.add_mul (n * d'), Int.mul_add, Int.add_mul, Int.mul_add, Int.add_mul]
    congr 1
    · simp only [Int.mul_assoc, Int.mul_comm, Int.mul_left_comm]
    · simp only [Int.mul_assoc, Int.mul_comm, Int.mul_left_comm]
  rw [a1, e, a2, h.e, h'.e]
  have a3 : v * d * d' + v' * d' * d = (v + v') * (d * d') := by
    rw [Int.add_mul]
    congr 1
    · simp only [Int.mul_assoc]
    · simp only [Int.mul_assoc, Int.mul_comm, Int.mul_left_comm]
  rw [a3]
  simp only [Int.mul_assoc, Int.mul_comm, Int.mul_left_comm]
def spMid : Sp := fun vs H Q _ => ∃ a b n d v n' d' v', vs = [.ref a, .ref b] ∧ H a = some (.tup [.int n, .int d]) ∧ H b = some (.tup [.int n', .int d']) ∧ VF n d v ∧ VF n' d' v' ∧ ∀ q x y H', Same H H' → H' q = some (.tup [.int x, .int y]) → LF x y (v + v') → Q (.ref q) H'
theorem sc_middle : FnScope ["one", "other"] ["one", "other"] (defScope s_middle) := ⟨rfl, rfl, rfl, by decide +kernel, rfl, by decide +kernel, by decide +kernel⟩
theorem ok_middle (T : AllO K mg CF) (k_lowered : Kn P w K mg base CX0 1 "lowered" ["top", "bottom"] spLow) : Kn P w K mg base CX0 2 "middle" ["one", "other"] spMid := by
  refine T.x_middle.kn fun f fd F => ?_
  refine F.ok sc_middle (fun vs H Q E h => ?_) (fun cdv A outer s H vs Q E hr h => ?_)
  · obtain ⟨a, b, n, d, v, n', d', v', rfl, _⟩ := h
    rfl
  · obtain ⟨a, b, n, d, v, n', d', v', rfl, ha, hb, f1, f2, q⟩ := h
    refine ⟨_, (pss_one (ps_ret (pk k_lowered hr (pa_cons (pe_op op_add (pe_op op_mulX (pe_ix ix_tup (pv 0) pe_int (fun _ _ => rfl)) (pe_ix ix_tup (pv 1) pe_int (fun _ _ => rfl))) (pe_op op_mulX (pe_ix ix_tup (pv 1) pe_int (fun _ _ => rfl)) (pe_ix ix_tup (pv 0) pe_int (fun _ _ => rfl)))) (pa_cons (pe_op op_mulX (pe_op op_mulX pe_int (pe_ix ix_tup (pv 0) pe_int (fun _ _ => rfl))) (pe_ix ix_tup (pv 1) pe_int (fun _ _ => rfl))) pa_nil))))), ?_⟩
    obtain ⟨lf, D0, bD⟩ := mid_LF f1 f2
    have b1 := f1.bn
    have b2 := f1.bd
    have b3 := f2.bn
    have b4 := f2.bd
    have b5 := bits_mul 2 d
    have b6 : bits 2 = 2 := by decide
    repeat walk_at "rd"
    refine w_ixT ha (v := .int n) rfl ?_
    repeat walk_at "rd"
    refine w_ixT hb (v := .int d') rfl ?_
    refine w_I (cmulx (i := n) (j := d') (by omega) (by omega)) ?_
    repeat walk_at "rd"
    refine w_ixT hb (v := .int n') rfl ?_
    repeat walk_at "rd"
    refine w_ixT ha (v := .int d) rfl ?_
    refine w_I (cmulx (i := n') (j := d) (by omega) (by omega)) ?_
    repeat walk_at "rd"
    refine w_ixT ha (v := .int d) rfl ?_
    refine w_I (cmulx (i := 2) (j := d) (by decide) (by omega)) ?_
    repeat walk_at "rd"
    refine w_ixT hb (v := .int d') rfl ?_
    refine w_I (cmulx (i := 2 * d) (j := d') (by omega) (by omega)) ?_
    repeat walk_at "rd"
    exact u_low D0 (by omega) fun q1 H1 s1 e1 => q q1 _ _ H1 s1 e1 lf
end
end Nu

set_option Elab.async false
set_option linter.all false
set_option maxRecDepth 100000
set_option autoImplicit false
set_option maxHeartbeats 4000000
namespace Nu
open PySem PySem.Spec PyProof.Rows L2 Rd
local macro_rules | `(tactic| walk_at "hp") => `(tactic| first | assumption | (refine same_get ?sm ?_; (case sm => assumption); walk_at "hp"))
local macro_rules | `(tactic| walk_at "rd") => `(tactic| first
  | with_reducible refine w_nx ?_
  | with_reducible refine w_rt ?_
  | with_reducible refine w_bk ?_
  | with_reducible refine w_ct ?_
  | with_reducible refine w_seq ?_
  | with_reducible refine w_next ?_
  | with_reducible refine w_ret ?_
  | with_reducible refine w_ifS ?_
  | with_reducible refine w_asg ?_
  | with_reducible refine w_name ?_
  | with_reducible refine w_par ?_
  | with_reducible refine w_parI ?_
  | with_reducible refine w_ii ?_
  | with_reducible refine w_i1 ?_
  | with_reducible refine w_drop ?_
  | with_reducible refine w_sFld ?_
  | ((with_reducible refine' w_var ?rdh ?_); (case rdh => exact rfl))
  | with_reducible refine w_c ?_
  | with_reducible refine w_op ?_
  | with_reducible refine w_un ?_
  | with_reducible refine w_I0 ?_
  | with_reducible refine w_U ?_
  | with_reducible refine w_bits ?_
  | with_reducible refine w_bitsI ?_
  | with_reducible refine w_tup ?_
  | with_reducible refine w_lst ?_
  | with_reducible refine w_nil ?_
  | with_reducible refine w_cons ?_
  | with_reducible refine w_fld ?_
  | with_reducible refine w_call ?_
  | with_reducible refine w_make ?_
  | with_reducible refine w_gsub ?_
  | with_reducible refine w_int1 ?_
  | with_reducible refine w_intB ?_
  | with_reducible refine w_for ?_
  | with_reducible refine w_rng1 ?_
  | with_reducible refine w_iList ?_
  | with_reducible refine w_iTup ?_
  | with_reducible refine w_makeD ?_
  | with_reducible refine w_nn ?_
  | with_reducible refine w_subB ?_
  | with_reducible refine w_meth ?_
  | with_reducible refine w_cb ?_
  | with_reducible refine w_test ?_
  | with_reducible refine w_B ?_
  | with_reducible refine w_bl ?_
  | with_reducible refine w_andV ?_
  | with_reducible refine w_orV ?_
  | with_reducible refine w_notV ?_
  | with_reducible refine w_and ?_
  | with_reducible refine w_or ?_
  | with_reducible refine w_not ?_
  | with_reducible refine w_if ?_
  | with_reducible refine w_gnil ?_
  | with_reducible refine w_gcons ?_
  | with_reducible refine iT ?_
  | with_reducible refine iF ?_
  | with_reducible refine w_eqI ?_
  | with_reducible refine w_neI ?_
  | with_reducible refine w_eqS ?_
  | with_reducible refine w_eqIS ?_
  | with_reducible refine w_eqSI ?_)

theorem and_one' (n : Int) : Builtin.bitAnd n 1 = n % 2 := by
  rcases Int.lt_or_le n 0 with c | c
  · have a : decide (0 ≤ n) = false := decide_eq_false (by omega)
    have b : decide (0 ≤ (1 : Int)) = true := rfl
    unfold Builtin.bitAnd
    rw [a, b]
    have e : Builtin.bitNot n = -n - 1 := rfl
    show (1 : Int) - (((1 : Int).toNat &&& (Builtin.bitNot n).toNat : Nat) : Int) = _
    rw [e, show (1 : Int).toNat = 1 from rfl, Nat.and_comm, Nat.and_one_is_mod]
    omega
  · exact and_one c
theorem vR_s {s m : Int} (hs : s = 1 ∨ s = -1) (hm : 0 ≤ m) : vR (s * m) = s * V m := by
  rcases hs with rfl | rfl
  · rw [Int.one_mul, Int.one_mul, vR_pos hm]
  · rw [Int.neg_mul, Int.one_mul, Int.neg_mul, Int.one_mul, vR_neg (by omega), Int.neg_neg]
theorem V_rA {s t p : Int} (h : (Fl.fin s t p).ok) : V (rA t p) = t * G p := by
  unfold rA
  by_cases c : t = 0
  · rw [if_pos c, c, V_zero, Int.zero_mul]
  · rw [if_neg c]
    obtain ⟨_, _, cn, e⟩ := fin_can h c
    rw [(V_can cn).1, e]
theorem val_f {s t p : Int} (h : (Fl.fin s t p).ok) : VF (ratT s t p) (ratB p) (vR (rkM (.fin s t p))) := by
  refine ⟨?_, ratB_pos p, by have := ratT_b h; omega, by have := ratB_b h; omega⟩
  obtain ⟨p1, _⟩ := ok_p h
  rw [rkM_A, vR_s h.1 (rA_nn h).1, V_rA h]
  exact ratT_G (by omega)
theorem val_of {r : Int} (h : absI r < 9218868437227405312) : ∃ s t p, ofM r = .fin s t p ∧ (Fl.fin s t p).ok ∧ VF (ratT s t p) (ratB p) (vR r) := by
  have ok := ofM_ok (r := r) (by omega)
  have e := rk_of (r := r) (by omega)
  have ef : ofM r = .fin (sgI r) (red (absI r - kOf (absI r) * 4503599627370496) (kOf (absI r) + -1074)).1 (red (absI r - kOf (absI r) * 4503599627370496) (kOf (absI r) + -1074)).2 := by
    unfold ofM
    rw [if_neg (by omega)]
  rw [ef] at ok e
  refine ⟨_, _, _, ef, ok, ?_⟩
  have := val_f ok
  rwa [e] at this
theorem val_top {r : Int} (h : absI r = 9218868437227405312) : VF (sgI r * 2 ^ 1024) 1 (vR r) := by
  have hV : V 9218868437227405312 = 2 ^ 1024 * G 0 := by decide +kernel
  have e : vR r = sgI r * V (absI r) := rfl
  refine ⟨?_, by decide, ?_, by decide⟩
  · rw [e, h, hV, Int.mul_one, Int.mul_assoc]
  · have := bits_mul (sgI r) (2 ^ 1024)
    rw [bits_pow] at this
    have h2 : bits (sgI r) ≤ 1 := by rcases sgI_pm r with k | k <;> rw [k] <;> decide
    omega
section
variable {P : Program} {w : World} {K : PySem.W.Frag} {mg : Str → Option Value} {base : Heap} {CF : Addr}
def spVal : Sp := fun vs H Q _ => ∃ r, vs = [.int r] ∧ absI r ≤ 9218868437227405312 ∧ ∀ q n d H', Same H H' → H' q = some (.tup [.int n, .int d]) → VF n d (vR r) → Q (.ref q) H'
theorem sc_value_at : FnScope ["rank"] ["rank"] (defScope s_value_at) := ⟨rfl, rfl, rfl, by decide +kernel, rfl, by decide +kernel, by decide +kernel⟩
theorem ok_value_at (T : AllO K mg CF) (k_sign_of : Kn P w K mg base CX0 1 "sign_of" ["is_negative"] spSign) (k_of_rank : Kn P w K mg base CX0 5 "of_rank" ["rank"] (spOfR CF)) (k_Float_ratio : KnM P w K mg base CX0 1 CF "ratio" ["self"] (spRatio CF)) : Kn P w K mg base CX0 6 "value_at" ["rank"] spVal := by
  refine T.x_value_at.kn fun f fd F => ?_
  refine F.ok sc_value_at (fun vs H Q E h => ?_) (fun cdv A outer s H vs Q E hr h => ?_)
  · obtain ⟨r, rfl, _⟩ := h
    rfl
  · obtain ⟨r, rfl, hb, q⟩ := h
    refine ⟨_, (pss_cons (ps_if (pt_cmpR op_eq (pe_callB call_abs (by rfl) T.b_abs boot_abs (pa_cons (pv 0) pa_nil)) (pgE "GREATEST_RANK" T.c_GREATEST_RANK) (nomark _)) (pss_one (ps_ret (pe_tup (pa_cons (pe_op op_shlW (pk k_sign_of hr (pa_cons (pe_cmpR op_lt (pv 0) pe_int (nomark _)) pa_nil)) pe_int) (pa_cons pe_int pa_nil))))) pss_nil)
      (pss_one (ps_ret (pkM0 k_Float_ratio T.l_Float hr (pk k_of_rank hr (pa_cons (pv 0) pa_nil)) rfl)))), ?_⟩
    have ea : (if r < 0 then -r else r) = absI r := rfl
    repeat walk_at "rd"
    rw [ea]
    refine iD (fun c => ?_) (fun c => ?_)
    · repeat walk_at "rd"
      refine ⟨_, rfl, ?_⟩
      rw [es_sg]
      have hs := sgI_pm r
      repeat walk_at "rd"
      refine w_I (cshl (i := sgI r) (j := 1024) (by rcases hs with k | k <;> rw [k] <;> decide) (by decide) (by decide)) ?_
      repeat walk_at "rd"
      exact w_tup2 fun a1 H1 s1 n1 e1 => q a1 _ _ H1 s1 e1 (val_top c)
    · obtain ⟨s, t, p, ef, ok, vf⟩ := val_of (r := r) (by omega)
      repeat walk_at "rd"
      refine u_ofR hb fun x1 H1 s1 n1 k1 => ?_
      rw [ef] at k1
      obtain ⟨dx, h1⟩ := id k1
      refine w_methI h1 (lk_rat _ _ _) ?_
      repeat walk_at "rd"
      exact ⟨x1, s, t, p, rfl, k1, ok, fun q2 H2 s2 n2 e2 => q q2 _ _ H2 (s1.trans s2) e2 vf⟩
def spEven (CF : Addr) : Sp := fun vs H Q _ => ∃ a f, vs = [.ref a] ∧ FlAt CF H a f ∧ f.ok ∧ isNan f = false ∧ ∀ H', Same H H' → Q (.bl (decide (rkM f % 2 = 0))) H'
theorem sc_is_even : FnScope ["number"] ["number"] (defScope s_is_even) := ⟨rfl, rfl, rfl, by decide +kernel, rfl, by decide +kernel, by decide +kernel⟩
theorem ok_is_even (T : AllO K mg CF) (k_rank_of : Kn P w K mg base CX0 2 "rank_of" ["number"] (spRank CF)) : Kn P w K mg base CX0 3 "is_even" ["number"] (spEven CF) := by
  refine T.x_is_even.kn fun f fd F => ?_
  refine F.ok sc_is_even (fun vs H Q E h => ?_) (fun cdv A outer s H vs Q E hr h => ?_)
  · obtain ⟨a, f, rfl, _⟩ := h
    rfl
  · obtain ⟨a, f, rfl, hf, okf, nf, q⟩ := h
    refine ⟨_, (pss_one (ps_ret (pe_cmpR op_eq (pe_op op_and (pk k_rank_of hr (pa_cons (pv 0) pa_nil)) pe_int) pe_int (nomark _)))), ?_⟩
    repeat walk_at "rd"
    refine u_rank hf okf nf fun H1 s1 => ?_
    repeat walk_at "rd"
    rw [and_one']
    exact q H1 s1
def spFF (K : PySem.W.Frag) (CF : Addr) : Sp := fun vs H Q _ => (∃ a f, vs = [.ref a] ∧ FlAt CF H a f ∧ Q (.bl f.isFin) H) ∨ (∃ x pl bo st, vs = [x] ∧ Says K CF H x pl bo st false ∧ Q (.bl false) H)
theorem sc_is_finite_float : FnScope ["thing"] ["thing"] (defScope s_is_finite_float) := ⟨rfl, rfl, rfl, by decide +kernel, rfl, by decide +kernel, by decide +kernel⟩
theorem ok_finite_float (T : AllO K mg CF) (k_Float_is_finite : KnM P w K mg base CX0 1 CF "is_finite" ["self"] (spFinite CF)) : Kn P w K mg base CX0 2 "is_finite_float" ["thing"] (spFF K CF) := by
  refine T.x_is_finite_float.kn fun f fd F => ?_
  refine F.ok sc_is_finite_float (fun vs H Q E h => ?_) (fun cdv A outer s H vs Q E hr h => ?_)
  · rcases h with ⟨a, f, rfl, _⟩ | ⟨x, pl, bo, st, rfl, _⟩ <;> rfl
  · refine ⟨_, (pss_one (ps_ret (pe_and (pe_callB call_isi (by rfl) T.b_isinstance boot_isinstance (pa_cons (pv 0) (pa_cons (pg "Float" T.g_Float (rref _)) pa_nil))) (pe_one (pkM0 k_Float_is_finite T.l_Float hr (pv 0) rfl))))), ?_⟩
    rcases h with ⟨a, f, rfl, hf, q⟩ | ⟨x, pl, bo, st, rfl, ⟨t, ty, i1, i2, i3, i4⟩, q⟩
    · obtain ⟨dx, h1⟩ := id hf
      obtain ⟨t, ty, i1, i2, i3, i4⟩ := says_fl T.toAll h1
      repeat walk_at "rd"
      refine w_isi (.own CF) ty i4 ?_
      repeat walk_at "rd"
      refine w_methI h1 (lk_fin _ _ _) ?_
      repeat walk_at "rd"
      exact ⟨a, f, rfl, hf, q⟩
    · repeat walk_at "rd"
      refine w_isi (.own CF) ty i4 ?_
      repeat walk_at "rd"
      exact q
def spChk (CF : Addr) : Sp := fun vs H Q _ => ∃ (a : Addr) (f : Fl) (part : Str), vs = [.ref a, .str part] ∧ FlAt CF H a f ∧ f.isFin = true ∧ Q .non H
theorem sc_check_finite : FnScope ["number", "part"] ["number", "part"] (defScope s_check_finite) := ⟨rfl, rfl, rfl, by decide +kernel, rfl, by decide +kernel, by decide +kernel⟩
theorem ok_check (T : AllO K mg CF) (k_is_finite_float : Kn P w K mg base CX0 2 "is_finite_float" ["thing"] (spFF K CF)) : Kn P w K mg base CX0 3 "check_finite" ["number", "part"] (spChk CF) := by
  refine T.x_check_finite.kn fun f fd F => ?_
  refine F.ok sc_check_finite (fun vs H Q E h => ?_) (fun cdv A outer s H vs Q E hr h => ?_)
  · obtain ⟨a, f, part, rfl, _⟩ := h
    rfl
  · obtain ⟨a, f, part, rfl, hf, hfin, q⟩ := h
    refine ⟨_, (pss_one (ps_if (pt_not (pt_val (pk k_is_finite_float hr (pa_cons (pv 0) pa_nil)))) (pss_one ps_never) pss_nil)), ?_⟩
    repeat walk_at "rd"
    refine .inl ⟨a, f, rfl, hf, ?_⟩
    rw [hfin]
    repeat walk_at "rd"
    refine iF ?_
    repeat walk_at "rd"
    exact q
/-! ### spread -/
theorem u_val {r : Int} {H : Hp} {Q : VK} {E : XK} (h : absI r ≤ 9218868437227405312) (q : ∀ q n d H', Same H H' → H' q = some (.tup [.int n, .int d]) → VF n d (vR r) → Q (.ref q) H') : spVal ([V.int r] ++ []) H Q E := ⟨r, rfl, h, q⟩
theorem u_mid {a b : Addr} {n d v n' d' v' : Int} {H : Hp} {Q : VK} {E : XK} (ha : H a = some (.tup [.int n, .int d])) (hb : H b = some (.tup [.int n', .int d'])) (f1 : VF n d v) (f2 : VF n' d' v') (q : ∀ q x y H', Same H H' → H' q = some (.tup [.int x, .int y]) → LF x y (v + v') → Q (.ref q) H') : spMid ([V.ref a, V.ref b] ++ []) H Q E :=
  ⟨a, b, n, d, v, n', d', v', rfl, ha, hb, f1, f2, q⟩
def SpAt (H : Hp) (q : Addr) (r : Int) : Prop := ∃ lo hi ln ld hn hd, H q = some (.tup [.ref lo, .ref hi, .bl (decide (r % 2 = 0))]) ∧ H lo = some (.tup [.int ln, .int ld]) ∧ H hi = some (.tup [.int hn, .int hd]) ∧ LF ln ld (Mb r) ∧ LF hn hd (Mb (r + 1))
def spSprd (CF : Addr) : Sp := fun vs H Q _ => ∃ a s t p, vs = [.ref a] ∧ FlAt CF H a (.fin s t p) ∧ (Fl.fin s t p).ok ∧ ∀ q H', Same H H' → SpAt H' q (rkM (.fin s t p)) → Q (.ref q) H'
theorem sc_spread : FnScope ["number", "rank", "here"] ["number"] (defScope s_spread) := ⟨rfl, rfl, rfl, by decide +kernel, rfl, by decide +kernel, by decide +kernel⟩
theorem ok_spread2 (T : AllO K mg CF) (k_check_finite : Kn P w K mg base CX0 3 "check_finite" ["number", "part"] (spChk CF)) (k_rank_of : Kn P w K mg base CX0 2 "rank_of" ["number"] (spRank CF)) (k_lowered : Kn P w K mg base CX0 1 "lowered" ["top", "bottom"] spLow) (k_middle : Kn P w K mg base CX0 2 "middle" ["one", "other"] spMid)
    (k_value_at : Kn P w K mg base CX0 6 "value_at" ["rank"] spVal) (k_is_even : Kn P w K mg base CX0 3 "is_even" ["number"] (spEven CF)) (k_Float_ratio : KnM P w K mg base CX0 1 CF "ratio" ["self"] (spRatio CF)) : Kn P w K mg base CX0 7 "spread" ["number"] (spSprd CF) := by
  refine T.x_spread.kn fun f fd F => ?_
  refine F.ok sc_spread (fun vs H Q E h => ?_) (fun cdv A outer s H vs Q E hr h => ?_)
  · obtain ⟨a, s, t, p, rfl, _⟩ := h
    rfl
  · obtain ⟨a, s, t, p, rfl, hf, okf, q⟩ := h
    refine ⟨_, (pss_cons (ps_expr (pk k_check_finite hr (pa_cons (pv 0) (pa_cons pe_str pa_nil))))
      (pss_cons (ps_par (by rfl) sc_spread.nd (i := 1) (j := 2) rfl rfl (by decide) rfl rfl (pa_cons (pk k_rank_of hr (pa_cons (pv 0) pa_nil)) (pa_cons (pk k_lowered hr (pa_cons (pe_ix ix_tup (pkM0 k_Float_ratio T.l_Float hr (pv 0) rfl) pe_int (fun _ _ => rfl)) (pa_cons (pe_ix ix_tup (pkM0 k_Float_ratio T.l_Float hr (pv 0) rfl) pe_int (fun _ _ => rfl)) pa_nil))) pa_nil)) (by rfl))
      (pss_one (ps_ret (pe_tup (pa_cons (pk k_middle hr (pa_cons (pk k_value_at hr (pa_cons (pe_op op_sub (pv 1) pe_int) pa_nil)) (pa_cons (pv 2) pa_nil))) (pa_cons (pk k_middle hr (pa_cons (pv 2) (pa_cons (pk k_value_at hr (pa_cons (pe_op op_add (pv 1) pe_int) pa_nil)) pa_nil))) (pa_cons (pk k_is_even hr (pa_cons (pv 0) pa_nil)) pa_nil)))))))), ?_⟩
    obtain ⟨dx, h1⟩ := id hf
    have b := (rk_lt okf).2 rfl
    have vf := val_f okf
    have vl := vf.low
    have blo : absI (rkM (.fin s t p) - 1) ≤ 9218868437227405312 := dn_in okf rfl (fun z => Bool.false_ne_true z.1)
    have bhi : absI (rkM (.fin s t p) + 1) ≤ 9218868437227405312 := up_in okf rfl (fun z => Bool.false_ne_true z.1)
    generalize hr' : rkM (.fin s t p) = r at *
    repeat walk_at "rd"
    refine ⟨a, _, _, rfl, hf, rfl, ?_⟩
    repeat walk_at "rd"
    refine u_rank hf okf rfl fun H1 s1 => ?_
    rw [hr']
    repeat walk_at "rd"
    refine w_methI (s1 _ _ h1) (lk_rat _ _ _) ?_
    repeat walk_at "rd"
    refine ⟨a, s, t, p, rfl, hf.same s1, okf, fun q2 H2 s2 n2 e2 => ?_⟩
    have S2 := s1.trans s2
    repeat walk_at "rd"
    refine w_ixT e2 (v := .int (ratT s t p)) rfl ?_
    repeat walk_at "rd"
    refine w_methI (S2 _ _ h1) (lk_rat _ _ _) ?_
    repeat walk_at "rd"
    refine ⟨a, s, t, p, rfl, hf.same S2, okf, fun q3 H3 s3 n3 e3 => ?_⟩
    have S3 := S2.trans s3
    repeat walk_at "rd"
    refine w_ixT e3 (v := .int (ratB p)) rfl ?_
    repeat walk_at "rd"
    refine u_low vf.d0 (by have := vf.bd; omega) fun hq H4 s4 e4 => ?_
    have S4 := S3.trans s4
    repeat walk_at "rd"
    refine u_val blo fun q5 n5 d5 H5 s5 e5 v5 => ?_
    repeat walk_at "rd"
    refine u_mid e5 (s5 _ _ e4) v5 vl fun lo ln ld H6 s6 e6 l6 => ?_
    have S6 := S4.trans (s5.trans s6)
    have e4 := s6 _ _ (s5 _ _ e4)
    repeat walk_at "rd"
    refine u_val bhi fun q7 n7 d7 H7 s7 e7 v7 => ?_
    repeat walk_at "rd"
    refine u_mid (s7 _ _ e4) e7 vl v7 fun hi hn hd H8 s8 e8 l8 => ?_
    have e6 := s8 _ _ (s7 _ _ e6)
    have S8 := S6.trans (s7.trans s8)
    repeat walk_at "rd"
    refine ⟨a, _, rfl, hf.same S8, okf, rfl, fun H9 s9 => ?_⟩
    rw [hr']
    repeat walk_at "rd"
    refine w_tup3 fun q10 H10 s10 n10 e10 => ?_
    refine q q10 H10 (S8.trans (s9.trans s10)) ⟨lo, hi, ln, ld, hn, hd, e10, s10 _ _ (s9 _ _ e6), s10 _ _ (s9 _ _ e8), l6, ?_⟩
    have : Mb (r + 1) = vR r + vR (r + 1) := by
      unfold Mb
      rw [show r + 1 - 1 = r by omega]
    rw [this]
    exact l8
end
end Nu

set_option Elab.async false
set_option linter.all false
set_option maxRecDepth 100000
set_option autoImplicit false
set_option maxHeartbeats 4000000
namespace Nu
open PySem PySem.Spec PyProof.Rows L2 Rd
local macro_rules | `(tactic| walk_at "hp") => `(tactic| first | assumption | (refine same_get ?sm ?_; (case sm => assumption); walk_at "hp"))
local macro_rules | `(tactic| walk_at "rd") => `(tactic| first
  | with_reducible refine w_nx ?_
  | with_reducible refine w_rt ?_
  | with_reducible refine w_bk ?_
  | with_reducible refine w_ct ?_
  | with_reducible refine w_seq ?_
  | with_reducible refine w_next ?_
  | with_reducible refine w_ret ?_
  | with_reducible refine w_ifS ?_
  | with_reducible refine w_asg ?_
  | with_reducible refine w_name ?_
  | with_reducible refine w_par ?_
  | with_reducible refine w_parI ?_
  | with_reducible refine w_ii ?_
  | with_reducible refine w_i1 ?_
  | with_reducible refine w_drop ?_
  | with_reducible refine w_sFld ?_
  | ((with_reducible refine' w_var ?rdh ?_); (case rdh => exact rfl))
  | with_reducible refine w_c ?_
  | with_reducible refine w_op ?_
  | with_reducible refine w_un ?_
  | with_reducible refine w_I0 ?_
  | with_reducible refine w_U ?_
  | with_reducible refine w_bits ?_
  | with_reducible refine w_bitsI ?_
  | with_reducible refine w_tup ?_
  | with_reducible refine w_lst ?_
  | with_reducible refine w_nil ?_
  | with_reducible refine w_cons ?_
  | with_reducible refine w_fld ?_
  | with_reducible refine w_call ?_
  | with_reducible refine w_make ?_
  | with_reducible refine w_gsub ?_
  | with_reducible refine w_int1 ?_
  | with_reducible refine w_intB ?_
  | with_reducible refine w_for ?_
  | with_reducible refine w_rng1 ?_
  | with_reducible refine w_iList ?_
  | with_reducible refine w_iTup ?_
  | with_reducible refine w_makeD ?_
  | with_reducible refine w_nn ?_
  | with_reducible refine w_subB ?_
  | with_reducible refine w_meth ?_
  | with_reducible refine w_cb ?_
  | with_reducible refine w_test ?_
  | with_reducible refine w_B ?_
  | with_reducible refine w_bl ?_
  | with_reducible refine w_andV ?_
  | with_reducible refine w_orV ?_
  | with_reducible refine w_notV ?_
  | with_reducible refine w_and ?_
  | with_reducible refine w_or ?_
  | with_reducible refine w_not ?_
  | with_reducible refine w_if ?_
  | with_reducible refine w_gnil ?_
  | with_reducible refine w_gcons ?_
  | with_reducible refine iT ?_
  | with_reducible refine iF ?_
  | with_reducible refine w_eqI ?_
  | with_reducible refine w_neI ?_
  | with_reducible refine w_eqS ?_
  | with_reducible refine w_eqIS ?_
  | with_reducible refine w_eqSI ?_)

theorem w_lc {wi : TI} {g : TG} {tt : TT} {te : TE} {vs : List Nat} {σ : L2.St} {H : Hp} {Q : VK} (h : wi σ H fun J H1 => ∀ D, H1 D = none → ∃ W : Nat → Nat → Hp → Prop, (∃ m, W 0 m (upd H1 D (.lst []))) ∧ ∀ i m H, W i m H →
  (J.stop i H ∧ Q (.ref D) H) ∨ (J.go i H ∧ ∃ Nx : Hp → Prop, (∀ H', Nx H' → ∃ m', m' < m ∧ W (i + 1) m' H') ∧ ∀ x H', J.yld i H x H' → g x (wipe σ vs) H' fun σ2 H2 => wipe σ2 vs = wipe σ vs ∧ tt σ2 H2 fun b H3 =>
    if b = true then te σ2 H3 fun y H4 => ∃ acc, H4 D = some (.lst acc) ∧ acc.length < sizeLine ∧ Nx (upd H4 D (.lst (acc ++ [y]))) else Nx H3)) : tLc wi g tt te vs σ H Q := h
theorem w_yes {σ : L2.St} {H : Hp} {Q : Bool → Hp → Prop} (q : Q true H) : tYes σ H Q := q
theorem same_put {H H' : Hp} {D : Addr} {o : HO} (s : Same H H') (n : H D = none) : Same H (upd H' D o) := fun b u e => by
  rw [upd_ne (ne_of_none e n)]
  exact s b u e
theorem w_lenT {p : Addr} {K : PySem.W.Frag} {xs : List L2.V} {H : Hp} {R : List L2.V → Prop} (h : H p = some (.tup xs)) (q : R xs) : ∃ p' ys, [V.ref p] = [V.ref p'] ∧ (SqL K H p' ys ∨ SqT K H p' ys) ∧ R ys := ⟨p, xs, rfl, .inr (SqT.of h), q⟩
def goodF (n d : Int) : Bool := decide (0 < d) && decide (Int.gcd n d = 1)
theorem eqv2 (x y n d : Int) : PyData.eqv (.tuple [.int x, .int y]) (.tuple [.int n, .int d]) = (decide (x = n) && decide (y = d)) := by
  show ((x == n) && ((y == d) && true)) = _
  rw [Bool.and_true]
  rfl
theorem dp2 {K : PySem.W.Frag} {H : Hp} {a : Addr} {x y : Int} (h : H a = some (.tup [.int x, .int y])) : Dp K H (.ref a) (.tuple [.int x, .int y]) := .tup (SqT.of h) (.cons (.int _) (.cons (.int _) .nil))
theorem good_low {n d : Int} (hd : 0 < d) : (decide ((lowM n d).1 = n) && decide ((lowM n d).2 = d)) = goodF n d := by
  unfold goodF
  rw [decide_eq_true hd, Bool.true_and]
  by_cases c : Int.gcd n d = 1
  · rw [low_id hd c, decide_eq_true c, decide_eq_true rfl, decide_eq_true rfl]
    rfl
  · rw [decide_eq_false c]
    have l := (low_d (t := n) hd).co
    by_cases e1 : (lowM n d).1 = n
    · by_cases e2 : (lowM n d).2 = d
      · rw [e1, e2] at l
        exact absurd l c
      · rw [decide_eq_false e2, Bool.and_false]
    · rw [decide_eq_false e1, Bool.false_and]
section
variable {P : Program} {w : World} {K : PySem.W.Frag} {mg : Str → Option Value} {base : Heap} {CF : Addr}
def spFra : Sp := fun vs H Q _ => ∃ a n d, vs = [.ref a] ∧ H a = some (.tup [.int n, .int d]) ∧ bits d ≤ 8000 ∧ ∀ H', Same H H' → Q (.bl (goodF n d)) H'
theorem sc_is_fraction : FnScope ["thing", "part"] ["thing"] (defScope s_is_fraction) := ⟨rfl, rfl, rfl, by decide +kernel, rfl, by decide +kernel, by decide +kernel⟩
theorem ok_is_fraction (T : AllO K mg CF) (k_lowered : Kn P w K mg base CX0 1 "lowered" ["top", "bottom"] spLow) : Kn P w K mg base CX0 2 "is_fraction" ["thing"] spFra := by
  refine T.x_is_fraction.kn fun f fd F => ?_
  refine F.ok sc_is_fraction (fun vs H Q E h => ?_) (fun cdv A outer s H vs Q E hr h => ?_)
  · obtain ⟨a, n, d, rfl, _⟩ := h
    rfl
  · obtain ⟨a, n, d, rfl, ha, hb, q⟩ := h
    refine ⟨_, (pss_cons (ps_if (PW.pt (pw_or (pt_not (pt_val (pe_callB call_isi (by rfl) T.b_isinstance boot_isinstance (pa_cons (pv 0) (pa_cons (pe_bltn (by rfl) T.b_tuple boot_tuple (rty _)) pa_nil))))) (pw_or1 (pt_cmpR op_ne (pe_callB call_len_seq (by rfl) T.b_len boot_len (pa_cons (pv 0) pa_nil)) pe_int (nomark _))))) (pss_one (ps_ret pe_bl)) pss_nil)
      (pss_cons (ps_if (PW.pt (pw_or (pt_not (pt_val (pe_callB (cr_all rfl) (by rfl) T.b_all boot_all (pa_cons (pe_lc (own := [("part", 1)]) (g := (gName 1)) (tt := tYes) rfl sc_is_fraction.nd (pi_tup (pv 0)) (blkOk_by (N := ["thing", "part"]) (sc := defScope s_is_fraction) (by decide +kernel)) (fun _ _ _ _ _ => (pg_name (i := 1) sc_is_fraction.nd rfl (Or.inl rfl))) (fun _ _ _ _ _ => pts_nil) (fun _ _ _ _ _ => (pe_and (pe_callB (r := rIsi K) call_isi (by rfl) T.b_isinstance boot_isinstance (pa_cons (pv 1) (pa_cons (pe_bltn (by rfl) T.b_int boot_int (rty _)) pa_nil))) (pe_one (pe_not (pe_callB (r := rIsi K) call_isi (by rfl) T.b_isinstance boot_isinstance (pa_cons (pv 1) (pa_cons (pe_bltn (by rfl) T.b_bool boot_bool (rty _)) pa_nil)))))))) pa_nil)))) (pw_or1 (pt_cmpR op_lt (pe_ix ix_tup (pv 0) pe_int (fun _ _ => rfl)) pe_int (nomark _))))) (pss_one (ps_ret pe_bl)) pss_nil)
      (pss_one (ps_ret (pe_cmpR (op_eqD hr.units) (pk k_lowered hr (pa_cons (pe_ix ix_tup (pv 0) pe_int (fun _ _ => rfl)) (pa_cons (pe_ix ix_tup (pv 0) pe_int (fun _ _ => rfl)) pa_nil))) (pv 0) (nomark _)))))), ?_⟩
    repeat walk_at "rd"
    refine w_isi (.ty "tuple") (.base (.tup ha)) (b := true) (kit_ty (by decide +kernel)) ?_
    repeat walk_at "rd"
    refine iF ?_
    repeat walk_at "rd"
    refine w_lenT ha ?_
    repeat walk_at "rd"
    refine iF ?_
    repeat walk_at "rd"
    refine w_lc ?_
    repeat walk_at "rd"
    refine w_iTupI ha fun D nD => ?_
    refine lc_tup (xs := [.int n, .int d]) (fun i H' => Same H H' ∧ H' D = some (.lst (List.replicate i (.bl true)))) ⟨same_upd nD, upd_same⟩ (fun i H' _ p => SqT.of (p.1 _ _ ha)) ?_ ?_
    · intro i x H' hi ⟨p1, p2⟩
      have hi5 : i < 2 := (List.getElem?_eq_some_iff.mp hi).1
      obtain ⟨z, rfl⟩ : ∃ z, x = .int z := by
        have := List.mem_of_getElem? hi
        simp only [List.mem_cons, List.not_mem_nil, or_false] at this
        rcases this with rfl | rfl <;> exact ⟨_, rfl⟩
      obtain ⟨t, ty, i1, i2, i3, i4⟩ := says_int (H := H') (i := z) T.toAll
      repeat walk_at "rd"
      refine ⟨rfl, ?_⟩
      refine w_yes ?_
      refine iT ?_
      repeat walk_at "rd"
      refine w_isi (.ty "int") ty i1 ?_
      repeat walk_at "rd"
      refine iT ?_
      repeat walk_at "rd"
      refine w_isi (.ty "bool") ty i2 ?_
      repeat walk_at "rd"
      refine ⟨_, p2, by rw [List.length_replicate]; exact Nat.lt_trans hi5 (by decide), same_put p1 nD, ?_⟩
      rw [upd_same, List.replicate_succ']
      rfl
    · intro H' ⟨p1, p2⟩
      repeat walk_at "rd"
      refine ⟨D, [true, true], rfl, SqL.of p2, ?_⟩
      repeat walk_at "rd"
      refine iF ?_
      repeat walk_at "rd"
      refine w_ixT (p1 _ _ ha) (v := .int d) rfl ?_
      repeat walk_at "rd"
      refine iD (fun c => ?_) (fun c => ?_)
      · repeat walk_at "rd"
        have := q H' p1
        rwa [show goodF n d = false by unfold goodF; rw [decide_eq_false (by omega), Bool.false_and]] at this
      · repeat walk_at "rd"
        refine w_ixT (p1 _ _ ha) (v := .int n) rfl ?_
        repeat walk_at "rd"
        refine w_ixT (p1 _ _ ha) (v := .int d) rfl ?_
        repeat walk_at "rd"
        refine u_low (by omega) hb fun q1 H1 s1 e1 => ?_
        repeat walk_at "rd"
        refine w_eqD (dp2 e1) (dp2 ((p1.trans s1) _ _ ha)) rfl rfl ?_
        rw [eqv2, good_low (by omega)]
        exact q H1 (p1.trans s1)
theorem u_fra {a : Addr} {n d : Int} {H : Hp} {Q : VK} {E : XK} (h : H a = some (.tup [.int n, .int d])) (hb : bits d ≤ 8000) (q : ∀ H', Same H H' → Q (.bl (goodF n d)) H') : spFra ([V.ref a] ++ []) H Q E := ⟨a, n, d, rfl, h, hb, q⟩
/-! ### is_rounded_to -/
theorem low_sign {n d ln ld m : Int} (h : LF ln ld m) : (n * ld - ln * d) * (2 * G 0) = ld * (2 * n * G 0 - m * d) := by
  have e := h.e
  rw [Int.sub_mul, Int.mul_sub]
  have a1 : ln * d * (2 * G 0) = 2 * ln * G 0 * d := by simp only [Int.mul_assoc, Int.mul_comm, Int.mul_left_comm]
  rw [a1, e]
  simp only [Int.mul_assoc, Int.mul_comm, Int.mul_left_comm]
theorem sg_l {x ld z : Int} (hl : 0 < ld) (e : x * (2 * G 0) = ld * z) : (0 < x ↔ 0 < z) ∧ (x < 0 ↔ z < 0) := by
  have g := G_pos 0
  have a := sg_mul' (x := x) (show 0 < 2 * G 0 by omega)
  have b := sg_mul' (x := z) hl
  rw [e, Int.mul_comm] at a
  exact ⟨a.1.symm.trans b.1, a.2.symm.trans b.2⟩
theorem ir_read {n d ln ld hn hd r : Int} (hlo : LF ln ld (Mb r)) (hhi : LF hn hd (Mb (r + 1))) :
    ((decide (0 < n * ld - ln * d) && decide (0 < hn * d - n * hd)) || (decide (r % 2 = 0) && (decide (0 ≤ n * ld - ln * d) && decide (0 ≤ hn * d - n * hd)))) = irM n d r := by
  have e1 := low_sign (n := n) (d := d) hlo
  have e2 := low_sign (n := n) (d := d) hhi
  have s1 := sg_l hlo.d0 e1
  have s2 := sg_l hhi.d0 e2
  unfold irM Blw
  have k1 : decide (0 < n * ld - ln * d) = decide (0 < 2 * n * G 0 - Mb r * d) := decide_eq_decide.2 s1.1
  have k2 : decide (0 ≤ n * ld - ln * d) = decide (0 ≤ 2 * n * G 0 - Mb r * d) := decide_eq_decide.2 (by omega)
  have k3 : decide (0 < hn * d - n * hd) = decide (2 * n * G 0 - Mb (r + 1) * d < 0) := decide_eq_decide.2 (by omega)
  have k4 : decide (0 ≤ hn * d - n * hd) = decide (2 * n * G 0 - Mb (r + 1) * d ≤ 0) := decide_eq_decide.2 (by omega)
  rw [k1, k2, k3, k4]
def spRto (CF : Addr) : Sp := fun vs H Q _ => ∃ a x n d s t p, vs = [.ref a, .ref x] ∧ H a = some (.tup [.int n, .int d]) ∧ 0 < d ∧ Int.gcd n d = 1 ∧ bits n ≤ 7000 ∧ bits d ≤ 7000 ∧ FlAt CF H x (.fin s t p) ∧ (Fl.fin s t p).ok ∧ ∀ H', Same H H' → Q (.bl (irM n d (rkM (.fin s t p)))) H'
theorem sc_is_rounded_to : FnScope ["fraction", "number", "low", "high", "is_closed", "below", "above"] ["fraction", "number"] (defScope s_is_rounded_to) := ⟨rfl, rfl, rfl, by decide +kernel, rfl, by decide +kernel, by decide +kernel⟩
theorem ok_is_rounded_to (T : AllO K mg CF) (k_is_fraction : Kn P w K mg base CX0 2 "is_fraction" ["thing"] spFra) (k_spread : Kn P w K mg base CX0 7 "spread" ["number"] (spSprd CF)) : Kn P w K mg base CX0 8 "is_rounded_to" ["fraction", "number"] (spRto CF) := by
  refine T.x_is_rounded_to.kn fun f fd F => ?_
  refine F.ok sc_is_rounded_to (fun vs H Q E h => ?_) (fun cdv A outer s H vs Q E hr h => ?_)
  · obtain ⟨a, x, n, d, s, t, p, rfl, _⟩ := h
    rfl
  · obtain ⟨a, x, n, d, s, t, p, rfl, ha, hd, hg, bn, bd, hx, okx, q⟩ := h
    refine ⟨_, (pss_cons (ps_if (pt_not (pt_val (pk k_is_fraction hr (pa_cons (pv 0) pa_nil)))) (pss_one ps_never) pss_nil)
      (pss_cons (ps_asg (pk k_spread hr (pa_cons (pv 1) pa_nil)) (pg_tup (by rfl) (pgs_cons (pg_name (i := 2) sc_is_rounded_to.nd rfl (Or.inl rfl)) (pgs_cons (pg_name (i := 3) sc_is_rounded_to.nd rfl (Or.inl rfl)) (pgs_cons (pg_name (i := 4) sc_is_rounded_to.nd rfl (Or.inl rfl)) pgs_nil)))))
      (pss_cons (ps_set (i := 5) sc_is_rounded_to.nd rfl (Or.inl rfl) (pe_op op_sub (pe_op op_mulX (pe_ix ix_tup (pv 0) pe_int (fun _ _ => rfl)) (pe_ix ix_tup (pv 2) pe_int (fun _ _ => rfl))) (pe_op op_mulX (pe_ix ix_tup (pv 2) pe_int (fun _ _ => rfl)) (pe_ix ix_tup (pv 0) pe_int (fun _ _ => rfl)))))
      (pss_cons (ps_set (i := 6) sc_is_rounded_to.nd rfl (Or.inl rfl) (pe_op op_sub (pe_op op_mulX (pe_ix ix_tup (pv 3) pe_int (fun _ _ => rfl)) (pe_ix ix_tup (pv 0) pe_int (fun _ _ => rfl))) (pe_op op_mulX (pe_ix ix_tup (pv 0) pe_int (fun _ _ => rfl)) (pe_ix ix_tup (pv 3) pe_int (fun _ _ => rfl)))))
      (pss_one (ps_ret (pe_or (pe_and (pe_cmpR op_gt (pv 5) pe_int (nomark _)) (pe_one (pe_cmpR op_gt (pv 6) pe_int (nomark _)))) (pe_one (pe_and (pv 4) (pe_and (pe_cmpR op_ge (pv 5) pe_int (nomark _)) (pe_one (pe_cmpR op_ge (pv 6) pe_int (nomark _))))))))))))), ?_⟩
    have gd : goodF n d = true := by unfold goodF; rw [decide_eq_true hd, decide_eq_true hg]; rfl
    repeat walk_at "rd"
    refine u_fra ha (Int.le_trans bd (by decide)) fun H1 s1 => ?_
    rw [gd]
    repeat walk_at "rd"
    refine iF ?_
    repeat walk_at "rd"
    refine ⟨x, s, t, p, rfl, hx.same s1, okx, fun q2 H2 s2 ⟨lo, hi, ln, ld, hn, hd', e2, el, eh, l1, l2⟩ => ?_⟩
    have S2 := s1.trans s2
    have ha := S2 _ _ ha
    generalize rkM (.fin s t p) = r at *
    repeat walk_at "rd"
    refine w_gtup e2 rfl ?_
    repeat walk_at "rd"
    have b1 := l1.bn
    have b2 := l1.bd
    have b3 := l2.bn
    have b4 := l2.bd
    refine w_ixT ha (v := .int n) rfl ?_
    repeat walk_at "rd"
    refine w_ixT el (v := .int ld) rfl ?_
    refine w_I (cmulx (i := n) (j := ld) (by omega) (by omega)) ?_
    repeat walk_at "rd"
    refine w_ixT el (v := .int ln) rfl ?_
    repeat walk_at "rd"
    refine w_ixT ha (v := .int d) rfl ?_
    refine w_I (cmulx (i := ln) (j := d) (by omega) (by omega)) ?_
    repeat walk_at "rd"
    refine w_ixT eh (v := .int hn) rfl ?_
    repeat walk_at "rd"
    refine w_ixT ha (v := .int d) rfl ?_
    refine w_I (cmulx (i := hn) (j := d) (by omega) (by omega)) ?_
    repeat walk_at "rd"
    refine w_ixT ha (v := .int n) rfl ?_
    repeat walk_at "rd"
    refine w_ixT eh (v := .int hd') rfl ?_
    refine w_I (cmulx (i := n) (j := hd') (by omega) (by omega)) ?_
    repeat walk_at "rd"
    have q := q H2 S2
    rw [← ir_read l1 l2] at q
    generalize n * ld - ln * d = A at *
    generalize hn * d - n * hd' = B at *
    refine iD (fun c1 => ?_) (fun c1 => ?_)
    · repeat walk_at "rd"
      refine iD (fun c2 => ?_) (fun c2 => ?_)
      · repeat walk_at "rd"
        rw [decide_eq_true c1, decide_eq_true c2] at q
        exact q
      · repeat walk_at "rd"
        refine iD (fun c3 => ?_) (fun c3 => ?_)
        · repeat walk_at "rd"
          refine iD (fun c4 => ?_) (fun c4 => ?_)
          · repeat walk_at "rd"
            rw [decide_eq_true c1, decide_eq_false c2, decide_eq_true c3, decide_eq_true c4] at q
            exact q
          · repeat walk_at "rd"
            rw [decide_eq_true c1, decide_eq_false c2, decide_eq_true c3, decide_eq_false c4] at q
            exact q
        · repeat walk_at "rd"
          rw [decide_eq_true c1, decide_eq_false c2, decide_eq_false c3] at q
          exact q
    · repeat walk_at "rd"
      refine iD (fun c3 => ?_) (fun c3 => ?_)
      · repeat walk_at "rd"
        refine iD (fun c4 => ?_) (fun c4 => ?_)
        · repeat walk_at "rd"
          rw [decide_eq_false c1, Bool.false_and, decide_eq_true c3, decide_eq_true c4] at q
          exact q
        · repeat walk_at "rd"
          rw [decide_eq_false c1, Bool.false_and, decide_eq_true c3, decide_eq_false c4] at q
          exact q
      · repeat walk_at "rd"
        rw [decide_eq_false c1, Bool.false_and, decide_eq_false c3] at q
        exact q
end
end Nu

set_option Elab.async false
set_option linter.all false
set_option maxRecDepth 100000
set_option maxHeartbeats 4000000
set_option autoImplicit false
/-! Sums: the one rank to which a fraction is rounded; what a sum and a product lack. -/
namespace Nu
open PySem L2
theorem Blw_anti {n d : Int} (hd : 0 < d) (r : Int) : ∀ k : Nat, Blw n d (r + k) ≤ Blw n d r
  | 0 => by rw [show r + ((0 : Nat) : Int) = r by omega]; exact Int.le_refl _
  | k + 1 => by
    have h1 := Blw_anti (n := n) hd r k
    have h2 := Blw_lt (n := n) hd (r + k)
    rw [show r + ((k + 1 : Nat) : Int) = r + k + 1 by omega]
    omega
theorem Blw_le {n d r r' : Int} (hd : 0 < d) (h : r ≤ r') : Blw n d r' ≤ Blw n d r := by
  have := Blw_anti (n := n) hd r (r' - r).toNat
  rwa [show r + ((r' - r).toNat : Int) = r' by omega] at this
theorem ir_below {n d r r' : Int} (hd : 0 < d) (h : irM n d r = true) (h' : irM n d r' = true) (c : r < r') : False := by
  have a := Blw_le (n := n) hd (show r + 1 ≤ r' by omega)
  have s1 := Blw_lt (n := n) hd (r + 1)
  unfold irM at h h'
  simp only [Bool.or_eq_true, Bool.and_eq_true, decide_eq_true_eq] at h h'
  have e : r' = r + 1 := by
    by_cases k : r' = r + 1
    · exact k
    · have := Blw_le (n := n) hd (show r + 1 + 1 ≤ r' by omega)
      omega
  subst e
  omega
theorem ir_uniq {n d r r' : Int} (hd : 0 < d) (h : irM n d r = true) (h' : irM n d r' = true) : r = r' := by
  rcases Int.lt_trichotomy r r' with c | c | c
  · exact (ir_below hd h h' c).elim
  · exact c
  · exact (ir_below hd h' h c).elim
/-- a value that is a float is rounded to it -/
theorem ir_exact {n d r : Int} (hd : 0 < d) (h : n * G 0 = vR r * d) : irM n d r = true := by
  have l1 := Int.mul_lt_mul_of_pos_right (vR_lt r) hd
  have l2 := Int.mul_lt_mul_of_pos_right (vR_lt (r + 1)) hd
  rw [show r + 1 - 1 = r by omega] at l2
  have e1 : Blw n d r = vR r * d - vR (r - 1) * d := by
    unfold Blw Mb
    rw [Int.add_mul, Int.mul_assoc, h]
    omega
  have e2 : Blw n d (r + 1) = vR r * d - vR (r + 1) * d := by
    unfold Blw Mb
    rw [show r + 1 - 1 = r by omega, Int.add_mul, Int.mul_assoc, h]
    omega
  unfold irM
  rw [decide_eq_true (show 0 < Blw n d r by omega), decide_eq_true (show Blw n d (r + 1) < 0 by omega)]
  rfl
/-! ### sums are rounded with what is left a float -/
/-- a float that lies between: what is rounded is nowhere nearer to it -/
theorem near_best {t b W p m e : Int} (n : Near t b W p) (hb : 0 < b) (hm0 : 0 ≤ m) (hm : m < 9007199254740992) (he : -1074 ≤ e) :
    (t * G 0 - W * (G p * b) ≤ t * G 0 - m * (G e * b) ∨ t * G 0 - W * (G p * b) ≤ m * (G e * b) - t * G 0) ∧
    (W * (G p * b) - t * G 0 ≤ t * G 0 - m * (G e * b) ∨ W * (G p * b) - t * G 0 ≤ m * (G e * b) - t * G 0) := by
  have p0 := n.p0
  have D0 : 0 < G (p - 1) * b := Int.mul_pos (G_pos _) hb
  have gp : G p * b = 2 * (G (p - 1) * b) := by rw [G_pred (by omega), Int.mul_assoc]
  have a := n.a
  have l := n.l
  have c := n.c
  have e1 : (2 * W + 1) * (G (p - 1) * b) = W * (G p * b) + G (p - 1) * b := by
    rw [gp, Int.add_mul, Int.one_mul, Int.mul_left_comm W, Int.mul_assoc]
  have e2 : (2 * W - 1) * (G (p - 1) * b) = W * (G p * b) - G (p - 1) * b := by
    rw [gp, Int.sub_mul, Int.one_mul, Int.mul_left_comm W, Int.mul_assoc]
  rw [e1] at a
  rw [e2] at l
  rcases Int.lt_or_le e p with k | k
  · -- a finer float lies below
    have c := c (by omega)
    have h1 : G e ≤ G (p - 1) := G_le (by omega)
    have h2 : G e * b ≤ G (p - 1) * b := Int.mul_le_mul_of_nonneg_right h1 (Int.le_of_lt hb)
    have h3 : m * (G e * b) ≤ m * (G (p - 1) * b) := Int.mul_le_mul_of_nonneg_left h2 hm0
    have h4 : m * (G (p - 1) * b) ≤ 9007199254740991 * (G (p - 1) * b) := Int.mul_le_mul_of_nonneg_right (by omega) (Int.le_of_lt D0)
    rw [gp] at c
    omega
  · obtain ⟨j, hj⟩ : ∃ j : Nat, e = p + j := ⟨(e - p).toNat, by omega⟩
    have ge : G e = 2 ^ j * G p := by rw [hj]; exact G_add j (by omega)
    have hM : m * (G e * b) = m * 2 ^ j * (G p * b) := by
      rw [ge]
      simp only [Int.mul_assoc]
    rw [hM]
    generalize m * 2 ^ j = M at *
    rcases Int.lt_trichotomy M W with q | q | q
    · have : (M + 1) * (G p * b) ≤ W * (G p * b) := Int.mul_le_mul_of_nonneg_right (by omega) (by omega)
      rw [Int.add_mul, Int.one_mul] at this
      omega
    · subst q
      omega
    · have : (W + 1) * (G p * b) ≤ M * (G p * b) := Int.mul_le_mul_of_nonneg_right (by omega) (by omega)
      rw [Int.add_mul, Int.one_mul] at this
      omega
theorem absl {x y z : Int} (h : x ≤ y ∨ x ≤ z) (g : 0 < G 0) : x * G 0 ≤ y * G 0 ∨ x * G 0 ≤ z * G 0 := h.elim (fun h => .inl (Int.mul_le_mul_of_nonneg_right h (Int.le_of_lt g))) fun h => .inr (Int.mul_le_mul_of_nonneg_right h (Int.le_of_lt g))
/-- by whole numbers of the least unit -/
structure NearV (t W p : Int) : Prop where
  a : t ≤ W * G p + G (p - 1)
  l : W * G p - G (p - 1) ≤ t
  c : -1074 < p → 4503599627370496 * G p ≤ t
  w0 : 0 ≤ W
  w1 : W ≤ 9007199254740992
  p0 : -1074 ≤ p
  best : ∀ m e, 0 ≤ m → m < 9007199254740992 → -1074 ≤ e → (t - W * G p ≤ t - m * G e ∨ t - W * G p ≤ m * G e - t) ∧ (W * G p - t ≤ t - m * G e ∨ W * G p - t ≤ m * G e - t)
theorem Near.toV {t W p : Int} (n : Near t (G 0) W p) : NearV t W p := by
  have g := G_pos 0
  have p0 := n.p0
  have gp := G_pred (e := p) (by omega)
  have can : ∀ {x y : Int}, x * G 0 ≤ y * G 0 → x ≤ y := fun h => Int.le_of_mul_le_mul_right h g
  refine ⟨can ?_, can ?_, fun h => can ?_, n.w0, n.w1, p0, fun m e hm0 hm he => ?_⟩
  · have := n.a
    rwa [← Int.mul_assoc, Int.add_mul, Int.one_mul, show 2 * W * G (p - 1) = W * G p by rw [gp, Int.mul_left_comm, Int.mul_assoc]] at this
  · have := n.l
    rwa [← Int.mul_assoc, Int.sub_mul, Int.one_mul, show 2 * W * G (p - 1) = W * G p by rw [gp, Int.mul_left_comm, Int.mul_assoc]] at this
  · have := n.c h
    rwa [← Int.mul_assoc] at this
  · have := near_best n g hm0 hm he
    rw [← Int.mul_assoc, ← Int.mul_assoc, ← Int.sub_mul, ← Int.sub_mul, ← Int.sub_mul, ← Int.sub_mul] at this
    exact ⟨this.1.elim (fun h => .inl (can h)) fun h => .inr (can h), this.2.elim (fun h => .inl (can h)) fun h => .inr (can h)⟩
/-- where the exponent goes down to that of the value, nothing is left -/
theorem NearV.whole {t W p K : Int} {j : Nat} (n : NearV t W p) (h : t = K * 2 ^ j * G p) : t = W * G p := by
  have p0 := n.p0
  have g := G_pos (p - 1)
  have gp := G_pred (e := p) (by omega)
  have a := n.a
  have l := n.l
  rw [h] at a l ⊢
  generalize K * 2 ^ j = M at *
  rw [gp] at a l ⊢
  have e1 : M * (2 * G (p - 1)) = 2 * M * G (p - 1) := by rw [Int.mul_left_comm, Int.mul_assoc]
  have e2 : W * (2 * G (p - 1)) = 2 * W * G (p - 1) := by rw [Int.mul_left_comm, Int.mul_assoc]
  rw [e1, e2] at a l
  have a' : 2 * M * G (p - 1) ≤ (2 * W + 1) * G (p - 1) := by rw [Int.add_mul, Int.one_mul]; exact a
  have l' : (2 * W - 1) * G (p - 1) ≤ 2 * M * G (p - 1) := by rw [Int.sub_mul, Int.one_mul]; exact l
  have h1 := Int.le_of_mul_le_mul_right a' g
  have h2 := Int.le_of_mul_le_mul_right l' g
  have : M = W := by omega
  rw [this]
/-- what is left is a float -/
structure Left (R : Int) : Prop where
  ex : ∃ s m e, (s = 1 ∨ s = -1) ∧ R = s * (m * G e) ∧ 0 ≤ m ∧ m < 9007199254740992 ∧ -1074 ≤ e ∧ e ≤ 2100 ∧ m * G e ≤ 9007199254740991 * G 971
theorem Left.zero : Left 0 := ⟨1, 0, 0, .inl rfl, by rw [Int.zero_mul]; rfl, by decide, by decide, by decide, by decide, by rw [Int.zero_mul]; exact Int.mul_nonneg (by decide) (Int.le_of_lt (G_pos _))⟩
theorem abs_s (r : Int) : ∃ s m, (s = 1 ∨ s = -1) ∧ r = s * m ∧ 0 ≤ m ∧ (m = r ∨ m = -r) := by
  rcases Int.lt_or_le r 0 with c | c
  · exact ⟨-1, -r, .inr rfl, by omega, by omega, .inr rfl⟩
  · exact ⟨1, r, .inl rfl, by omega, c, .inl rfl⟩
theorem left_of {R r e B : Int} (h : R = r * G e) (he : -1074 ≤ e) (he2 : e ≤ 2100) (hB : B < 9007199254740992) (h1 : R ≤ B * G e) (h2 : -R ≤ B * G e) (hT : B * G e ≤ 9007199254740991 * G 971 ∨ (R ≤ 9007199254740991 * G 971 ∧ -R ≤ 9007199254740991 * G 971)) : Left R := by
  obtain ⟨s, m, hs, hr, hm, hmr⟩ := abs_s r
  have g := G_pos e
  have e1 : -R = -r * G e := by rw [h, Int.neg_mul]
  rw [e1] at h2
  rw [h] at h1
  have b1 := Int.le_of_mul_le_mul_right h1 g
  have b2 := Int.le_of_mul_le_mul_right h2 g
  have mb : m ≤ B := by omega
  refine ⟨s, m, e, hs, by rw [h, hr, Int.mul_assoc], hm, by omega, he, he2, ?_⟩
  rcases hT with hT | ⟨t1, t2⟩
  · exact Int.le_trans (Int.mul_le_mul_of_nonneg_right mb (Int.le_of_lt g)) hT
  · rcases hmr with k | k
    · rw [k, ← h]; exact t1
    · rw [k, ← e1]; exact t2
/-- a sum of two floats, above 0, and what its float lacks -/
theorem rest_sum {S W p a b ta pa tb pb : Int} (n : NearV S W p) (h : S = a + b) (ha : a = ta * G pa ∨ a = -(ta * G pa)) (hb : b = tb * G pb ∨ b = -(tb * G pb)) (a0 : 0 ≤ ta) (a1 : ta < 9007199254740992) (b0 : 0 ≤ tb) (b1 : tb < 9007199254740992)
    (pa0 : -1074 ≤ pa) (pa1 : pa ≤ 2100) (pb0 : -1074 ≤ pb) (hS : 0 ≤ S) (hp : pa ≤ pb) (hT : ta * G pa ≤ 9007199254740991 * G 971) : Left (S - W * G p) := by
  have p0 := n.p0
  obtain ⟨j, hj⟩ : ∃ j : Nat, pb = pa + j := ⟨(pb - pa).toNat, by omega⟩
  have gb : G pb = 2 ^ j * G pa := by rw [hj]; exact G_add j (by omega)
  obtain ⟨k, hk⟩ : ∃ k, S = k * G pa := by
    have eb : tb * G pb = tb * 2 ^ j * G pa := by rw [gb, Int.mul_assoc]
    rcases ha with ha | ha <;> rcases hb with hb | hb
    · exact ⟨ta + tb * 2 ^ j, by rw [h, ha, hb, eb, Int.add_mul]⟩
    · exact ⟨ta - tb * 2 ^ j, by rw [h, ha, hb, eb, Int.sub_mul]; omega⟩
    · exact ⟨-ta + tb * 2 ^ j, by rw [h, ha, hb, eb, Int.add_mul, Int.neg_mul]⟩
    · exact ⟨-ta - tb * 2 ^ j, by rw [h, ha, hb, eb, Int.sub_mul, Int.neg_mul]; omega⟩
  have tb0 : 0 ≤ tb * G pb := Int.mul_nonneg b0 (Int.le_of_lt (G_pos pb))
  have ta0 : 0 ≤ ta * G pa := Int.mul_nonneg a0 (Int.le_of_lt (G_pos pa))
  have best := n.best tb pb b0 b1 pb0
  have zero := n.best 0 0 (by decide) (by decide) (by decide)
  rw [Int.zero_mul] at zero
  have r1 : S - W * G p ≤ ta * G pa := by omega
  have r2 : -(S - W * G p) ≤ ta * G pa := by omega
  rcases Int.lt_or_le p pa with c | c
  · obtain ⟨i, hi⟩ : ∃ i : Nat, pa = p + i := ⟨(pa - p).toNat, by omega⟩
    have ga : G pa = 2 ^ i * G p := by rw [hi]; exact G_add i (by omega)
    have := n.whole (K := k) (j := i) (by rw [hk, ga, Int.mul_assoc])
    rw [show S - W * G p = 0 by omega]
    exact Left.zero
  · obtain ⟨i, hi⟩ : ∃ i : Nat, p = pa + i := ⟨(p - pa).toNat, by omega⟩
    have gp : G p = 2 ^ i * G pa := by rw [hi]; exact G_add i (by omega)
    exact left_of (r := k - W * 2 ^ i) (e := pa) (B := ta) (by rw [hk, gp, Int.sub_mul, Int.mul_assoc]) pa0 pa1 a1 r1 r2 (.inl hT)
/-- a product of two floats, and what its float lacks -/
theorem rest_prod {S W p ta tb q : Int} (n : NearV S W p) (h : S = ta * tb * G q) (a0 : 0 ≤ ta) (a1 : ta < 9007199254740992) (b0 : 0 ≤ tb) (b1 : tb < 9007199254740992) (q0 : -2148 ≤ q) (q1 : q ≤ 2100) (hp : p ≤ 971) (hS : G (-900) ≤ S) : Left (S - W * G p) := by
  have p0 := n.p0
  have ab : ta * tb < 2 ^ 106 := by
    have h1 : ta * tb ≤ 9007199254740991 * 9007199254740991 := Int.mul_le_mul (by omega) (by omega) b0 (by decide)
    have : (9007199254740991 : Int) * 9007199254740991 < 2 ^ 106 := by decide
    omega
  have gq := G_pos q
  have q2 : -1006 < q := by
    rcases Int.lt_or_le (-1006) q with c | c
    · exact c
    · exfalso
      have h1 : G (q + 106) ≤ G (-900) := G_le (by omega)
      have h2 : G (q + 106) = 2 ^ 106 * G q := G_add 106 (by omega)
      have h3 := Int.mul_lt_mul_of_pos_right ab gq
      omega
  rcases Int.lt_or_le q p with c | c
  · obtain ⟨i, hi⟩ : ∃ i : Nat, p = q + i := ⟨(p - q).toNat, by omega⟩
    have gp : G p = 2 ^ i * G q := by rw [hi]; exact G_add i (by omega)
    have nc := n.c (by omega)
    have hi2 : p ≤ q + 53 := by
      rcases Int.lt_or_le (q + 53) p with d | d
      · exfalso
        have h1 : G (q + 54) ≤ G p := G_le (by omega)
        have h2 : G (q + 54) = 2 ^ 54 * G q := G_add 54 (by omega)
        have h3 := Int.mul_lt_mul_of_pos_right ab gq
        have e1 : (2 : Int) ^ 54 = 18014398509481984 := by decide
        have e2 : (2 : Int) ^ 106 = 4503599627370496 * 18014398509481984 := by decide
        rw [e1] at h2
        rw [← h, e2, Int.mul_assoc] at h3
        omega
      · exact d
    have g1 : G (p - 1) ≤ 4503599627370496 * G q := by
      have h1 : G (p - 1) ≤ G (q + 52) := G_le (by omega)
      have h2 : G (q + 52) = 2 ^ 52 * G q := G_add 52 (by omega)
      rw [show (2 : Int) ^ 52 = 4503599627370496 by decide] at h2
      omega
    have g2 : G (p - 1) ≤ G 971 := G_le (by omega)
    have g3 := G_pos 971
    have a := n.a
    have l := n.l
    exact left_of (r := ta * tb - W * 2 ^ i) (e := q) (B := 4503599627370496) (by rw [h, gp, Int.sub_mul, Int.mul_assoc W]) (by omega) q1 (by decide) (by omega) (by omega) (.inr ⟨by omega, by omega⟩)
  · obtain ⟨i, hi⟩ : ∃ i : Nat, q = p + i := ⟨(q - p).toNat, by omega⟩
    have ga : G q = 2 ^ i * G p := by rw [hi]; exact G_add i (by omega)
    have := n.whole (K := ta * tb) (j := i) (by rw [h, ga, Int.mul_assoc (ta * tb)])
    rw [show S - W * G p = 0 by omega]
    exact Left.zero
end Nu

set_option Elab.async false
set_option linter.all false
set_option maxRecDepth 100000
set_option autoImplicit false
set_option maxHeartbeats 4000000
namespace Nu
open PySem PySem.Spec PyProof.Rows L2 Rd
/-! ### what a fraction is rounded to -/
def OvF (t b : Int) : Prop := ((2 : Int) ^ 1024 - 2 ^ 970) * b ≤ t
theorem near_inf {s t b : Int} (ht : 0 < t) (hb : 0 < b) (hpw : pw t b ≤ 2800) (h : OvF t b) : nearM s t b = .inf s := by
  have n := near_whP ht hb hpw
  unfold nearM
  rw [if_neg (by omega), if_pos ((edge n hb).2 h)]
structure Rnk (t b : Int) (s : Int) (r : Int) : Prop where
  e : nearM s t b = ofM (s * r)
  ir : irM t b r = true
  pos : 0 < r
  lt : r < 9218868437227405312
  fin : ∃ M Q, nearM s t b = .fin s M Q ∧ (Fl.fin s M Q).ok ∧ rkM (.fin s M Q) = s * r ∧ M ≠ 0
theorem near_rank {s t b : Int} (hs : s = 1 ∨ s = -1) (ht : 0 < t) (hb : 0 < b) (hpw : pw t b ≤ 2800) (hov : ¬ OvF t b) (hlow : G (-1074) * b ≤ t * G 0) : ∃ r, Rnk t b s r := by
  have n := near_whP ht hb hpw
  have okn := nearM_ok (s := s) (t := t) (b := b) hs (Int.le_of_lt ht) hb
  have hbw : ¬ 1024 < bits (wh t b) + p2 t b := fun z => hov ((edge n hb).1 z)
  have W0 : 0 < wh t b := by
    rcases Int.lt_or_eq_of_le n.w0 with c | c
    · exact c
    · exfalso
      have h1 := n.a
      have h2 := near_w n hb
      have hp2 : p2 t b = -1074 := by have := n.p0; omega
      rw [← c, hp2, show (-1074 : Int) - 1 = -1075 by decide] at h1
      have h3 := G_pred (e := -1074) (by decide)
      rw [show (-1074 : Int) - 1 = -1075 by decide] at h3
      rw [h3, Int.mul_assoc] at hlow
      have := Int.mul_pos (G_pos (-1075)) hb
      omega
  have p0 := n.p0
  have enr : nearM s t b = .fin s (red (wh t b) (p2 t b)).1 (red (wh t b) (p2 t b)).2 := by
    unfold nearM
    rw [if_neg (by omega), if_neg hbw]
  have rg := red_G W0 (p := p2 t b) (by omega)
  have tn : (red (wh t b) (p2 t b)).1 ≠ 0 := fun z => by
    rw [z, Int.zero_mul] at rg
    have := Int.mul_pos W0 (G_pos (p2 t b))
    omega
  have b53 : 4503599627370496 ≤ wh t b → 53 ≤ bits (wh t b) := fun h => by
    rcases Int.lt_or_le (bits (wh t b)) 53 with c | c
    · have := (bits_lt_pow (k := 52) n.w0).1 (show bits (wh t b) ≤ ((52 : Nat) : Int) by omega)
      rw [show (2 : Int) ^ 52 = 4503599627370496 by decide] at this
      omega
    · exact c
  have b54 : 9007199254740992 ≤ wh t b → 54 ≤ bits (wh t b) := fun h => by
    rcases Int.lt_or_le (bits (wh t b)) 54 with c | c
    · have := (bits_lt_pow (k := 53) n.w0).1 (show bits (wh t b) ≤ ((53 : Nat) : Int) by omega)
      rw [show (2 : Int) ^ 53 = 9007199254740992 by decide] at this
      omega
    · exact c
  have nw := near_w n hb
  obtain ⟨T, P, cn, eT, ir⟩ := near_ir n hb W0 (by
    by_cases c : -1074 < p2 t b
    · have := b53 (nw c); omega
    · omega) (fun h => by have := b54 h; omega)
  rw [enr] at okn
  have rv := rk_val okn tn cn (rg.trans eT.symm)
  refine ⟨rkA T P, ?_, ir, cn.pos, cn.lt, _, _, enr, okn, rv, tn⟩
  rw [enr, ← rv, of_rk okn tn]
theorem ovf_cross {t b t' b' : Int} (hb : 0 < b) (hb' : 0 < b') (e : t * b' = t' * b) (h : OvF t b) : OvF t' b' := by
  unfold OvF at *
  generalize ((2 : Int) ^ 1024 - 2 ^ 970) = X at *
  have h1 := Int.mul_le_mul_of_nonneg_right h (Int.le_of_lt hb')
  rw [e] at h1
  have h2 : X * b * b' = X * b' * b := by simp only [Int.mul_assoc, Int.mul_comm, Int.mul_left_comm]
  rw [h2] at h1
  exact Int.le_of_mul_le_mul_right h1 hb
theorem low_cross {t b t' b' : Int} (hb : 0 < b) (hb' : 0 < b') (e : t * b' = t' * b) (h : G (-1074) * b ≤ t * G 0) : G (-1074) * b' ≤ t' * G 0 := by
  have h1 := Int.mul_le_mul_of_nonneg_right h (Int.le_of_lt hb')
  rw [Int.mul_right_comm t, e, Int.mul_right_comm (G (-1074)), Int.mul_right_comm t'] at h1
  exact Int.le_of_mul_le_mul_right h1 hb
theorem near_cross {s t b t' b' : Int} (hs : s = 1 ∨ s = -1) (ht : 0 < t) (hb : 0 < b) (ht' : 0 < t') (hb' : 0 < b') (hpw : pw t b ≤ 2800) (hpw' : pw t' b' ≤ 2800) (hlow : G (-1074) * b ≤ t * G 0) (e : t * b' = t' * b) : nearM s t b = nearM s t' b' := by
  by_cases c : OvF t b
  · rw [near_inf ht hb hpw c, near_inf ht' hb' hpw' (ovf_cross hb hb' e c)]
  · have c' : ¬ OvF t' b' := fun z => c (ovf_cross hb' hb e.symm z)
    obtain ⟨r, k⟩ := near_rank hs ht hb hpw c hlow
    obtain ⟨r', k'⟩ := near_rank hs ht' hb' hpw' c' (low_cross hb hb' e hlow)
    have i1 := k.ir
    rw [ir_cross hb hb' e r] at i1
    rw [k.e, k'.e, ir_uniq hb' i1 k'.ir]
/-! ### sums -/
def vN : Nm → Int
  | .int i => i * G 0
  | .fl (.fin s t p) => s * (t * G p)
  | .fl _ => 0
def ratN : Nm → Int × Int
  | .int i => (i, 1)
  | .fl (.fin s t p) => (ratT s t p, ratB p)
  | .fl _ => (0, 1)
def FinN : Nm → Prop
  | .int i => bits i ≤ 70
  | .fl f => f.ok ∧ f.isFin = true
theorem FinN.fl {f : Fl} (h : FinN (.fl f)) : ∃ s t p, f = .fin s t p ∧ (Fl.fin s t p).ok := by
  obtain ⟨ok, hf⟩ := h
  cases f with
  | nan => cases hf
  | inf _ => cases hf
  | fin s t p => exact ⟨s, t, p, rfl, ok⟩
theorem rat_v {n : Nm} (h : FinN n) : (ratN n).1 * G 0 = vN n * (ratN n).2 ∧ 0 < (ratN n).2 ∧ bits (ratN n).1 ≤ 1100 ∧ bits (ratN n).2 ≤ 1100 := by
  cases n with
  | int i =>
    have : bits i ≤ 70 := h
    refine ⟨(Int.mul_one _).symm, by show (0 : Int) < 1; decide, by show bits i ≤ 1100; omega, by show bits 1 ≤ 1100; decide⟩
  | fl f =>
    obtain ⟨s, t, p, rfl, ok⟩ := h.fl
    obtain ⟨p1, _⟩ := ok_p ok
    have := ratT_b ok
    have := ratB_b ok
    exact ⟨ratT_G (by omega), ratB_pos p, by show bits (ratT s t p) ≤ 1100; omega, by show bits (ratB p) ≤ 1100; omega⟩
/-- a sum that is not too great, in the least unit -/
structure SumB (k v : Int) : Prop where
  m : ∃ N, v = N * G (-1074)
  u : v ≤ k * (2 ^ 1024 * G 0)
  l : -v ≤ k * (2 ^ 1024 * G 0)
theorem SumB.add {k v k' v' : Int} (h : SumB k v) (h' : SumB k' v') : SumB (k + k') (v + v') := by
  obtain ⟨N, e⟩ := h.m
  obtain ⟨N', e'⟩ := h'.m
  have a1 := h.u
  have a2 := h.l
  have b1 := h'.u
  have b2 := h'.l
  exact ⟨⟨N + N', by rw [e, e', Int.add_mul]⟩, by rw [Int.add_mul]; omega, by rw [Int.add_mul]; omega⟩
theorem sumB0 : SumB 0 0 := ⟨⟨0, by rw [Int.zero_mul]⟩, by rw [Int.zero_mul]; exact Int.le_refl _, by rw [Int.zero_mul]; decide⟩
theorem pm_le {s x B : Int} (hs : s = 1 ∨ s = -1) (h0 : 0 ≤ x) (h : x ≤ B) : s * x ≤ B ∧ -(s * x) ≤ B := by
  rcases hs with rfl | rfl <;> omega
theorem top_le {s t p : Int} (h : (Fl.fin s t p).ok) : t * G p ≤ 2 ^ 1024 * G 0 := by
  have h1 := top_lt h
  have h2 : (9007199254740991 : Int) * G 971 ≤ 2 ^ 1024 * G 0 := by decide +kernel
  omega
theorem sumB_n {n : Nm} (h : FinN n) : SumB 1 (vN n) := by
  cases n with
  | int i =>
    have hb : bits i ≤ ((70 : Nat) : Int) := h
    have h1 := bits_le.1 hb
    have e : G 0 = 2 ^ 1074 * G (-1074) := by
      have := G_add (e := -1074) 1074 (by decide)
      rwa [show (-1074 : Int) + (1074 : Nat) = 0 by decide] at this
    have g0 := G_pos 0
    have b1 : i ≤ 2 ^ 70 := by rw [show (2 : Int) ^ 70 = ((2 ^ 70 : Nat) : Int) by decide]; omega
    have b2 : -i ≤ 2 ^ 70 := by rw [show (2 : Int) ^ 70 = ((2 ^ 70 : Nat) : Int) by decide]; omega
    have m1 : (2 : Int) ^ 70 ≤ 2 ^ 1024 := by decide +kernel
    refine ⟨⟨i * 2 ^ 1074, by show i * G 0 = _; rw [e, Int.mul_assoc]⟩, ?_, ?_⟩
    · show i * G 0 ≤ _
      rw [Int.one_mul]
      exact Int.mul_le_mul_of_nonneg_right (by omega) (Int.le_of_lt g0)
    · show -(i * G 0) ≤ _
      rw [Int.one_mul, ← Int.neg_mul]
      exact Int.mul_le_mul_of_nonneg_right (by omega) (Int.le_of_lt g0)
  | fl f =>
    obtain ⟨s, t, p, rfl, ok⟩ := h.fl
    obtain ⟨p1, _⟩ := ok_p ok
    obtain ⟨j, hj⟩ : ∃ j : Nat, p = -1074 + j := ⟨(p + 1074).toNat, by omega⟩
    have e : G p = 2 ^ j * G (-1074) := by rw [hj]; exact G_add j (by decide)
    have h1 := pm_le ok.1 (Int.mul_nonneg ok.2.1 (Int.le_of_lt (G_pos p))) (top_le ok)
    refine ⟨⟨s * (t * 2 ^ j), by show s * (t * G p) = _; rw [e]; simp only [Int.mul_assoc]⟩, ?_, ?_⟩
    · rw [Int.one_mul]; exact h1.1
    · rw [Int.one_mul]; exact h1.2
def sumV : List Nm → Int
  | [] => 0
  | n :: ns => vN n + sumV ns
theorem sumB_l : ∀ {ns : List Nm}, (∀ n ∈ ns, FinN n) → SumB ns.length (sumV ns)
  | [], _ => sumB0
  | n :: ns, h => by
    have h1 := sumB_n (h n (by simp))
    have h2 := sumB_l (ns := ns) fun m hm => h m (by simp [hm])
    have := h1.add h2
    rw [show (((n :: ns).length : Nat) : Int) = 1 + (ns.length : Int) by simp; omega]
    exact this
theorem sumV_perm {ns ms : List Nm} (h : ns.Perm ms) : sumV ns = sumV ms := by
  induction h with
  | nil => rfl
  | cons x _ ih => show vN x + _ = vN x + _; rw [ih]
  | swap x y l => show vN y + (vN x + _) = vN x + (vN y + _); omega
  | trans _ _ h1 h2 => exact h1.trans h2
theorem sumV_app (ns ms : List Nm) : sumV (ns ++ ms) = sumV ns + sumV ms := by
  induction ns with
  | nil => show sumV ms = 0 + sumV ms; omega
  | cons n ns ih => show vN n + sumV (ns ++ ms) = vN n + sumV ns + sumV ms; rw [ih]; omega
/-- the sum as a fraction in lowest terms -/
def lowV (v : Int) : Int × Int := lowM v (G 0)
structure LV (v n d : Int) : Prop where
  e : n * G 0 = v * d
  d0 : 0 < d
  co : Int.gcd n d = 1
theorem lv_of (v : Int) : LV v (lowV v).1 (lowV v).2 := by
  have l := low_d (t := v) (G_pos 0)
  exact ⟨l.e, l.y0, l.co⟩
theorem LV.eq {v n d : Int} (h : LV v n d) : (n, d) = lowV v := by
  have h' := lv_of v
  have g := G_pos 0
  obtain ⟨a, b⟩ := low_uniq h.co h'.co h.d0 h'.d0 (by
    refine Int.eq_of_mul_eq_mul_right (show G 0 ≠ 0 by omega) ?_
    rw [Int.mul_right_comm, h.e, Int.mul_right_comm (lowV v).1, h'.e]
    simp only [Int.mul_assoc, Int.mul_comm, Int.mul_left_comm])
  exact Prod.ext a b
theorem low_step {v v' n' d' : Int} (e : n' * G 0 = v' * d') (d0 : 0 < d') : lowM ((lowV v).1 * d' + n' * (lowV v).2) ((lowV v).2 * d') = lowV (v + v') := by
  have h := lv_of v
  refine low_eq (Int.mul_pos h.d0 d0) (G_pos 0) ?_
  have e1 := h.e
  generalize (lowV v).1 = n at *
  generalize (lowV v).2 = d at *
  rw [Int.add_mul, Int.mul_right_comm, e1, Int.mul_right_comm n', e, Int.add_mul]
  congr 1
  · simp only [Int.mul_assoc]
  · simp only [Int.mul_assoc, Int.mul_comm, Int.mul_left_comm]
theorem lv_bits {k v : Int} (h : SumB k v) (hk : k ≤ 1000) : bits (lowV v).1 ≤ 2115 ∧ bits (lowV v).2 ≤ 1075 := by
  have l := lv_of v
  obtain ⟨N, hN⟩ := h.m
  have e := l.e
  have co := l.co
  have d0 := l.d0
  have u := h.u
  have u' := h.l
  generalize (lowV v).1 = n at *
  generalize (lowV v).2 = d at *
  have g := G_pos (-1074)
  have eG : G 0 = 2 ^ 1074 * G (-1074) := by
    have := G_add (e := -1074) 1074 (by decide)
    rwa [show (-1074 : Int) + (1074 : Nat) = 0 by decide] at this
  have h1 : n * 2 ^ 1074 = N * d := by
    refine Int.eq_of_mul_eq_mul_right (show G (-1074) ≠ 0 by omega) ?_
    rw [Int.mul_assoc, ← eG, e, hN]
    simp only [Int.mul_assoc, Int.mul_comm, Int.mul_left_comm]
  have dv : d ∣ 2 ^ 1074 := by
    refine co_dvd (b := n) ?_ (by rw [Int.gcd_comm]; exact co)
    rw [h1]
    exact Int.dvd_mul_left _ _
  have dl : d ≤ 2 ^ 1074 := Int.le_of_dvd (by decide +kernel) dv
  have bd : bits d ≤ 1075 := by
    have := bits_mono (Int.le_of_lt d0) dl
    rw [bits_pow] at this
    omega
  refine ⟨?_, bd⟩
  have g0 := G_pos 0
  have X0 : 0 < (2 : Int) ^ 1024 * G 0 := Int.mul_pos (by decide +kernel) g0
  have hk2 : k * (2 ^ 1024 * G 0) ≤ 1000 * (2 ^ 1024 * G 0) := Int.mul_le_mul_of_nonneg_right hk (Int.le_of_lt X0)
  have n1 : n * G 0 ≤ 1000 * (2 ^ 1024 * G 0) * 2 ^ 1074 := by
    rw [e]
    have a1 : v * d ≤ 1000 * (2 ^ 1024 * G 0) * d := Int.mul_le_mul_of_nonneg_right (by omega) (Int.le_of_lt d0)
    have a2 : 1000 * (2 ^ 1024 * G 0) * d ≤ 1000 * (2 ^ 1024 * G 0) * 2 ^ 1074 := Int.mul_le_mul_of_nonneg_left dl (by omega)
    omega
  have n2 : -n * G 0 ≤ 1000 * (2 ^ 1024 * G 0) * 2 ^ 1074 := by
    rw [Int.neg_mul, e, ← Int.neg_mul]
    have a1 : -v * d ≤ 1000 * (2 ^ 1024 * G 0) * d := Int.mul_le_mul_of_nonneg_right (by omega) (Int.le_of_lt d0)
    have a2 : 1000 * (2 ^ 1024 * G 0) * d ≤ 1000 * (2 ^ 1024 * G 0) * 2 ^ 1074 := Int.mul_le_mul_of_nonneg_left dl (by omega)
    omega
  have eX : 1000 * ((2 : Int) ^ 1024 * G 0) * 2 ^ 1074 = 1000 * 2 ^ 1024 * 2 ^ 1074 * G 0 := by simp only [Int.mul_assoc, Int.mul_comm, Int.mul_left_comm]
  rw [eX] at n1 n2
  have m1 := Int.le_of_mul_le_mul_right n1 g0
  have m2 := Int.le_of_mul_le_mul_right n2 g0
  have eY : 1000 * (2 : Int) ^ 1024 * 2 ^ 1074 < 2 ^ 2115 := by decide +kernel
  rw [← bits_abs]
  refine (bits_lt_pow (k := 2115) (abs_nn n)).2 ?_
  split <;> omega
/-- the sum is 0 below 0 only if all are -/
def negZ : Nm → Bool
  | .int _ => false
  | .fl f => decide (f.s < 0)
def topZ : Nm → Bool
  | .int i => decide (i = 0)
  | .fl f => decide (f.t = .int 0)
def zNeg (ns : List Nm) : Bool := (!ns.isEmpty && ns.all negZ) && ns.all topZ
def sumM (ns : List Nm) : Fl := if sumV ns = 0 then .fin (if zNeg ns = true then -1 else 1) 0 0 else nearM (sgI (lowV (sumV ns)).1) (absI (lowV (sumV ns)).1) (lowV (sumV ns)).2
theorem all_perm {f : Nm → Bool} {ns ms : List Nm} (h : ns.Perm ms) : ns.all f = ms.all f := by
  induction h with
  | nil => rfl
  | cons x _ ih => rw [List.all_cons, List.all_cons, ih]
  | swap x y l => rw [List.all_cons, List.all_cons, List.all_cons, List.all_cons, ← Bool.and_assoc, ← Bool.and_assoc, Bool.and_comm (f y)]
  | trans _ _ h1 h2 => exact h1.trans h2
theorem sumM_perm {ns ms : List Nm} (h : ns.Perm ms) : sumM ns = sumM ms := by
  have hl : ns.isEmpty = ms.isEmpty := by
    have := h.length_eq
    cases ns <;> cases ms <;> simp_all
  unfold sumM zNeg
  rw [sumV_perm h, all_perm h, all_perm h, hl]
end Nu

set_option Elab.async false
set_option linter.all false
set_option maxRecDepth 100000
set_option autoImplicit false
set_option maxHeartbeats 4000000
namespace Nu
open PySem PySem.Spec PyProof.Rows L2 Rd
theorem lv_abs {v n d : Int} (h : LV v n d) : absI n * G 0 = absI v * d ∧ sgI n = sgI v ∧ (n = 0 ↔ v = 0) := by
  have g := G_pos 0
  have e := h.e
  have d0 := h.d0
  rcases Int.lt_trichotomy v 0 with c | c | c
  · have h1 := Int.mul_neg_of_neg_of_pos c d0
    have h2 : n < 0 := by
      rcases Int.lt_or_le n 0 with k | k
      · exact k
      · have := Int.mul_nonneg k (Int.le_of_lt g); omega
    unfold absI sgI
    rw [if_pos c, if_pos h2, if_pos c, if_pos h2, Int.neg_mul, Int.neg_mul, e]
    exact ⟨rfl, rfl, by omega⟩
  · rw [c, Int.zero_mul] at e
    have h2 : n = 0 := by
      rcases Int.mul_eq_zero.1 e with k | k
      · exact k
      · omega
    rw [c, h2]
    exact ⟨by show 0 * G 0 = 0 * d; rw [Int.zero_mul, Int.zero_mul], rfl, by simp⟩
  · have h1 := Int.mul_pos c d0
    have h2 : 0 < n := by
      rcases Int.lt_or_le 0 n with k | k
      · exact k
      · have := Int.mul_le_mul_of_nonneg_right k (Int.le_of_lt g); omega
    unfold absI sgI
    rw [if_neg (by omega), if_neg (by omega), if_neg (by omega), if_neg (by omega)]
    exact ⟨e, rfl, by omega⟩
theorem absI_pos {v : Int} (h : v ≠ 0) : 0 < absI v := by unfold absI; split <;> omega
theorem mul_low {k v : Int} (h : SumB k v) (hv : v ≠ 0) : G (-1074) ≤ absI v := by
  obtain ⟨N, e⟩ := h.m
  have g := G_pos (-1074)
  have hN : N ≠ 0 := fun z => hv (by rw [e, z, Int.zero_mul])
  rcases Int.lt_or_le N 0 with c | c
  · have h1 : G (-1074) * 1 ≤ G (-1074) * (-N) := Int.mul_le_mul_of_nonneg_left (by omega) (Int.le_of_lt g)
    rw [Int.mul_neg, Int.mul_comm _ N, ← e] at h1
    unfold absI
    split <;> omega
  · have h1 : G (-1074) * 1 ≤ G (-1074) * N := Int.mul_le_mul_of_nonneg_left (by omega) (Int.le_of_lt g)
    rw [Int.mul_comm _ N, ← e] at h1
    unfold absI
    split <;> omega
theorem pw_of {t b : Int} {k : Int} (h : bits t ≤ k) (hk : k ≤ 2800) : pw t b ≤ 2800 := by
  have := bits_nn b
  unfold pw; split <;> omega
theorem ir_zero {b : Int} (hb : 0 < b) : irM 0 b 0 = true := by
  have m0 : Mb 0 < 0 := by decide +kernel
  have m1 : 0 < Mb (0 + 1) := by decide +kernel
  have h1 := Int.mul_neg_of_neg_of_pos m0 hb
  have h2 := Int.mul_pos m1 hb
  unfold irM Blw
  simp only [Int.mul_zero, Int.zero_mul, Bool.or_eq_true, Bool.and_eq_true, decide_eq_true_eq]
  left
  omega
/-- a fraction with the value v -/
structure FV (v n d : Int) : Prop where
  e : n * G 0 = v * d
  d0 : 0 < d
theorem fv_abs {v n d : Int} (h : FV v n d) : absI n * G 0 = absI v * d ∧ sgI n = sgI v ∧ (n = 0 ↔ v = 0) := by
  have g := G_pos 0
  have e := h.e
  have d0 := h.d0
  rcases Int.lt_trichotomy v 0 with c | c | c
  · have h1 := Int.mul_neg_of_neg_of_pos c d0
    have h2 : n < 0 := by
      rcases Int.lt_or_le n 0 with k | k
      · exact k
      · have := Int.mul_nonneg k (Int.le_of_lt g); omega
    unfold absI sgI
    rw [if_pos c, if_pos h2, if_pos c, if_pos h2, Int.neg_mul, Int.neg_mul, e]
    exact ⟨rfl, rfl, by omega⟩
  · rw [c, Int.zero_mul] at e
    have h2 : n = 0 := by
      rcases Int.mul_eq_zero.1 e with k | k
      · exact k
      · omega
    rw [c, h2]
    exact ⟨by show 0 * G 0 = 0 * d; rw [Int.zero_mul, Int.zero_mul], rfl, by simp⟩
  · have h1 := Int.mul_pos c d0
    have h2 : 0 < n := by
      rcases Int.lt_or_le 0 n with k | k
      · exact k
      · have := Int.mul_le_mul_of_nonneg_right k (Int.le_of_lt g); omega
    unfold absI sgI
    rw [if_neg (by omega), if_neg (by omega), if_neg (by omega), if_neg (by omega)]
    exact ⟨e, rfl, by omega⟩
theorem sum_near {ns : List Nm} (hf : ∀ n ∈ ns, FinN n) (hl : ns.length ≤ 1000) (hv : sumV ns ≠ 0) : 0 < absI (lowV (sumV ns)).1 ∧ 0 < (lowV (sumV ns)).2 ∧ bits (absI (lowV (sumV ns)).1) ≤ 2115 ∧ bits (lowV (sumV ns)).2 ≤ 1075 ∧ pw (absI (lowV (sumV ns)).1) (lowV (sumV ns)).2 ≤ 2800 ∧
    G (-1074) * (lowV (sumV ns)).2 ≤ absI (lowV (sumV ns)).1 * G 0 := by
  have sb := sumB_l hf
  have l := lv_of (sumV ns)
  obtain ⟨a1, _, a3⟩ := lv_abs l
  obtain ⟨b1, b2⟩ := lv_bits sb (by omega)
  have n0 : (lowV (sumV ns)).1 ≠ 0 := fun z => hv (a3.1 z)
  have b3 : bits (absI (lowV (sumV ns)).1) ≤ 2115 := by rw [absI_bits]; exact b1
  refine ⟨absI_pos n0, l.d0, b3, b2, pw_of b3 (by decide), ?_⟩
  rw [a1]
  exact Int.mul_le_mul_of_nonneg_right (mul_low sb hv) (Int.le_of_lt l.d0)
theorem sg_ir {n d r : Int} (h : irM (absI n) d r = true) : irM n d (sgI n * r) = true := by
  unfold absI at h
  unfold sgI
  by_cases c : n < 0
  · rw [if_pos c] at h ⊢
    rw [Int.neg_mul, Int.one_mul]
    have := ir_neg (-n) d r
    rw [Int.neg_neg] at this
    rw [this, h]
  · rw [if_neg c] at h ⊢
    rw [Int.one_mul]
    exact h
theorem sum_ok {ns : List Nm} (hf : ∀ n ∈ ns, FinN n) (hl : ns.length ≤ 1000) : (sumM ns).ok ∧ isNan (sumM ns) = false := by
  unfold sumM
  by_cases c : sumV ns = 0
  · rw [if_pos c]
    refine ⟨⟨?_, by decide, by decide, fun _ => rfl, fun h => absurd rfl h⟩, rfl⟩
    split
    · exact .inr rfl
    · exact .inl rfl
  · rw [if_neg c]
    obtain ⟨a1, a2, _⟩ := sum_near hf hl c
    refine ⟨nearM_ok (sgI_pm _) (Int.le_of_lt a1) a2, ?_⟩
    unfold nearM
    split
    · rfl
    · split <;> rfl
theorem sum_ir {ns : List Nm} (hf : ∀ n ∈ ns, FinN n) (hl : ns.length ≤ 1000) {s M Q : Int} (h : sumM ns = .fin s M Q) : irM (lowV (sumV ns)).1 (lowV (sumV ns)).2 (rkM (.fin s M Q)) = true := by
  unfold sumM at h
  by_cases c : sumV ns = 0
  · rw [if_pos c] at h
    injection h with e1 e2 e3
    subst e2
    have l := lv_of (sumV ns)
    have n0 := (lv_abs l).2.2.2 c
    rw [n0, show rkM (.fin s 0 Q) = 0 by rw [rkM_fin, if_pos rfl]]
    exact ir_zero l.d0
  · rw [if_neg c] at h
    obtain ⟨a1, a2, a3, a4, a5, a6⟩ := sum_near hf hl c
    have hov : ¬ OvF (absI (lowV (sumV ns)).1) (lowV (sumV ns)).2 := fun z => by
      rw [near_inf a1 a2 a5 z] at h
      cases h
    obtain ⟨r, k⟩ := near_rank (s := sgI (lowV (sumV ns)).1) (sgI_pm _) a1 a2 a5 hov a6
    obtain ⟨M', Q', e', _, rk', _⟩ := k.fin
    rw [e'] at h
    rw [← h, rk']
    exact sg_ir k.ir
/-! ### of two floats -/
theorem sumV2 (n m : Nm) : sumV [n, m] = vN n + vN m := by show vN n + (vN m + 0) = _; omega
theorem fin_n {s t p : Int} (h : (Fl.fin s t p).ok) : FinN (.fl (.fin s t p)) := ⟨h, rfl⟩
theorem all2 {f g : Nm} (h1 : FinN f) (h2 : FinN g) : ∀ n ∈ [f, g], FinN n := fun n hn => by
  simp only [List.mem_cons, List.not_mem_nil, or_false] at hn
  rcases hn with rfl | rfl
  · exact h1
  · exact h2
theorem add_fv {s t p r u q : Int} (hf : (Fl.fin s t p).ok) (hg : (Fl.fin r u q).ok) : FV (vN (.fl (.fin s t p)) + vN (.fl (.fin r u q))) (ratT s t p * ratB q + ratT r u q * ratB p) (ratB p * ratB q) := by
  obtain ⟨p1, _⟩ := ok_p hf
  obtain ⟨q1, _⟩ := ok_p hg
  have e1 := ratT_G (s := s) (t := t) (p := p) (by omega)
  have e2 := ratT_G (s := r) (t := u) (p := q) (by omega)
  refine ⟨?_, Int.mul_pos (ratB_pos p) (ratB_pos q)⟩
  show _ = (s * (t * G p) + r * (u * G q)) * _
  rw [Int.add_mul, Int.mul_right_comm, e1, Int.mul_right_comm (ratT r u q), e2, Int.add_mul]
  congr 1
  · simp only [Int.mul_assoc]
  · simp only [Int.mul_assoc, Int.mul_comm, Int.mul_left_comm]
theorem v_zero {s t p : Int} (h : (Fl.fin s t p).ok) : vN (.fl (.fin s t p)) = 0 ↔ t = 0 := by
  have g := G_pos p
  show s * (t * G p) = 0 ↔ t = 0
  constructor
  · intro z
    rcases Int.mul_eq_zero.1 z with k | k
    · rcases h.1 with e | e <;> omega
    · rcases Int.mul_eq_zero.1 k with k2 | k2
      · exact k2
      · omega
  · rintro rfl
    rw [Int.zero_mul, Int.mul_zero]
theorem sum_two {s t p r u q : Int} (hf : (Fl.fin s t p).ok) (hg : (Fl.fin r u q).ok) : sumM [.fl (.fin s t p), .fl (.fin r u q)] = addM (.fin s t p) (.fin r u q) := by
  have fv := add_fv hf hg
  obtain ⟨a1, a2, a3⟩ := fv_abs fv
  have hall := all2 (fin_n hf) (fin_n hg)
  rw [addM_ff]
  have z1 := v_zero hf
  have z2 := v_zero hg
  by_cases c : sumV [.fl (.fin s t p), .fl (.fin r u q)] = 0
  · unfold sumM
    rw [if_pos c]
    rw [sumV2] at c
    by_cases d : t = 0 ∧ u = 0
    · obtain ⟨rfl, rfl⟩ := d
      rw [if_pos (show (0 : Int) = 0 ∧ (0 : Int) = 0 from ⟨rfl, rfl⟩)]
      have hz : zNeg [.fl (.fin s 0 p), .fl (.fin r 0 q)] = (decide (s < 0) && decide (r < 0)) := by
        show ((!false && (decide (s < 0) && (decide (r < 0) && true))) && (decide (L2.V.int 0 = .int 0) && (decide (L2.V.int 0 = .int 0) && true))) = _
        rw [show decide (L2.V.int 0 = .int 0) = true by decide]
        simp
      rw [hz]
      rcases hf.1 with rfl | rfl <;> rcases hg.1 with rfl | rfl <;> decide
    · rw [if_neg d]
      have hz : zNeg [.fl (.fin s t p), .fl (.fin r u q)] = false := by
        have ht : (topZ (.fl (.fin s t p)) && topZ (.fl (.fin r u q))) = false := by
          show (decide (L2.V.int t = .int 0) && decide (L2.V.int u = .int 0)) = false
          by_cases k : t = 0
          · rw [decide_eq_false (show ¬ L2.V.int u = .int 0 from fun z => d ⟨k, L2.V.int.inj z⟩), Bool.and_false]
          · rw [decide_eq_false (show ¬ L2.V.int t = .int 0 from fun z => k (L2.V.int.inj z)), Bool.false_and]
        show (_ && (topZ (.fl (.fin s t p)) && (topZ (.fl (.fin r u q)) && true))) = false
        rw [Bool.and_true, ht, Bool.and_false]
      have n0 := a3.2 c
      rw [hz, n0]
      show Fl.fin 1 0 0 = nearM 1 0 (ratB p * ratB q)
      unfold nearM
      rw [if_pos rfl]
  · have d : ¬ (t = 0 ∧ u = 0) := by
      rintro ⟨k1, k2⟩
      rw [sumV2] at c
      have := z1.2 k1
      have := z2.2 k2
      omega
    rw [if_neg d]
    obtain ⟨b1, b2, b3, b4, b5, b6⟩ := sum_near hall (by show 2 ≤ 1000; decide) c
    unfold sumM
    rw [if_neg c]
    rw [sumV2] at b1 b2 b3 b4 b5 b6 c ⊢
    have l := lv_of (vN (.fl (.fin s t p)) + vN (.fl (.fin r u q)))
    obtain ⟨c1, c2, c3⟩ := lv_abs l
    have e : (if ratT s t p * ratB q + ratT r u q * ratB p < 0 then (-1 : Int) else 1) = sgI (lowV (vN (.fl (.fin s t p)) + vN (.fl (.fin r u q)))).1 := by
      rw [c2, ← a2]; rfl
    have e2 : (if ratT s t p * ratB q + ratT r u q * ratB p < 0 then -(ratT s t p * ratB q + ratT r u q * ratB p) else ratT s t p * ratB q + ratT r u q * ratB p) = absI (ratT s t p * ratB q + ratT r u q * ratB p) := rfl
    rw [e, e2]
    have tb := top_bits hf hg
    have N0 : ratT s t p * ratB q + ratT r u q * ratB p ≠ 0 := fun z => c (a3.1 z)
    have D0 := fv.d0
    refine near_cross (sgI_pm _) b1 b2 (absI_pos N0) D0 b5 (pw_of (k := 2150) (by rw [absI_bits]; exact tb) (by decide)) b6 ?_
    generalize ratT s t p * ratB q + ratT r u q * ratB p = N at *
    generalize ratB p * ratB q = D at *
    have g := G_pos 0
    refine Int.eq_of_mul_eq_mul_right (show G 0 ≠ 0 by omega) ?_
    rw [Int.mul_right_comm, c1, Int.mul_right_comm (absI N), a1]
    simp only [Int.mul_assoc, Int.mul_comm, Int.mul_left_comm]
theorem vR_val {s t p : Int} (h : (Fl.fin s t p).ok) : vN (.fl (.fin s t p)) = vR (rkM (.fin s t p)) := by
  show s * (t * G p) = _
  rw [rkM_A, vR_s h.1 (rA_nn h).1, V_rA h]
theorem sum_one {s t p : Int} (h : (Fl.fin s t p).ok) : sumM [.fl (.fin s t p)] = .fin s t p := by
  have hall : ∀ n ∈ [Nm.fl (.fin s t p)], FinN n := fun n hn => by
    simp only [List.mem_cons, List.not_mem_nil, or_false] at hn
    rw [hn]; exact fin_n h
  have z1 := v_zero h
  have eV : sumV [.fl (.fin s t p)] = vN (.fl (.fin s t p)) := by show vN _ + 0 = _; omega
  by_cases c : sumV [.fl (.fin s t p)] = 0
  · unfold sumM
    rw [if_pos c]
    rw [eV] at c
    have t0 := z1.1 c
    subst t0
    have p0 : p = 0 := h.2.2.2.1 rfl
    subst p0
    have hz : zNeg [.fl (.fin s 0 0)] = decide (s < 0) := by
      show ((!false && (decide (s < 0) && true)) && (decide (L2.V.int 0 = .int 0) && true)) = _
      rw [show decide (L2.V.int 0 = .int 0) = true by decide]
      simp
    rw [hz]
    rcases h.1 with rfl | rfl <;> decide
  · obtain ⟨a1, a2, a3, a4, a5, a6⟩ := sum_near hall (by show 1 ≤ 1000; decide) c
    have l := lv_of (sumV [.fl (.fin s t p)])
    have ex := ir_exact (r := rkM (.fin s t p)) l.d0 (by rw [l.e, eV, vR_val h])
    have t0 : t ≠ 0 := fun z => c (by rw [eV]; exact z1.2 z)
    have hov : ¬ OvF (absI (lowV (sumV [.fl (.fin s t p)])).1) (lowV (sumV [.fl (.fin s t p)])).2 := by
      intro z
      have g0 := G_pos 0
      have z2 := Int.mul_le_mul_of_nonneg_right z (Int.le_of_lt g0)
      rw [(lv_abs l).1, Int.mul_right_comm] at z2
      have z3 := Int.le_of_mul_le_mul_right z2 a2
      rw [eV] at z3
      have e1 : absI (vN (.fl (.fin s t p))) = t * G p := absT h.1 (Int.mul_nonneg h.2.1 (Int.le_of_lt (G_pos p)))
      rw [e1] at z3
      have := top_lt h
      have k : (9007199254740991 : Int) * G 971 < (2 ^ 1024 - 2 ^ 970) * G 0 := by decide +kernel
      omega
    obtain ⟨r, k⟩ := near_rank (s := sgI (lowV (sumV [.fl (.fin s t p)])).1) (sgI_pm _) a1 a2 a5 hov a6
    unfold sumM
    rw [if_neg c, k.e, ir_uniq l.d0 (sg_ir k.ir) ex]
    exact of_rk h t0
theorem sum_opp {s t p : Int} (h : (Fl.fin s t p).ok) : ∃ r, sumM [.fl (.fin s t p), .fl (.fin (0 - s) t p)] = .fin r 0 0 := by
  have : sumV [.fl (.fin s t p), .fl (.fin (0 - s) t p)] = 0 := by
    rw [sumV2]
    show s * (t * G p) + (0 - s) * (t * G p) = 0
    rw [← Int.add_mul, show s + (0 - s) = 0 by omega, Int.zero_mul]
  unfold sumM
  rw [if_pos this]
  exact ⟨_, rfl⟩
end Nu

set_option Elab.async false
set_option linter.all false
set_option maxRecDepth 100000
set_option autoImplicit false
set_option maxHeartbeats 4000000
namespace Nu
open PySem PySem.Spec PyProof.Rows L2 Rd
/-! ### what a rounded result lacks -/
def floM (t b : Int) : Option Fl := match nearM (sgI t) (absI t) b with
  | .fin s M Q => if ratT s M Q * b = t * ratB Q then some (.fin s M Q) else none
  | _ => none
theorem sg_absI (n : Int) : n = sgI n * absI n := by
  unfold sgI absI
  split <;> omega
theorem Left.neg {R s : Int} (h : Left R) (hs : s = 1 ∨ s = -1) : Left (s * R) := by
  obtain ⟨r, m, e, hr, hR, k⟩ := h.ex
  refine ⟨s * r, m, e, ?_, by rw [hR, Int.mul_assoc], k⟩
  rcases hs with rfl | rfl <;> rcases hr with rfl | rfl <;> decide
theorem flo_ok {t b : Int} {f : Fl} (hb : 0 < b) (h : floM t b = some f) : ∃ s M Q, f = .fin s M Q ∧ (Fl.fin s M Q).ok ∧ vN (.fl (.fin s M Q)) * b = t * G 0 := by
  have okn := nearM_ok (s := sgI t) (t := absI t) (b := b) (sgI_pm t) (absI_nn t) hb
  unfold floM at h
  generalize nearM (sgI t) (absI t) b = g at *
  cases g with
  | nan => cases h
  | inf _ => cases h
  | fin s M Q =>
    have h : (if ratT s M Q * b = t * ratB Q then some (Fl.fin s M Q) else none) = some f := h
    by_cases c : ratT s M Q * b = t * ratB Q
    · rw [if_pos c] at h
      obtain rfl := Option.some.inj h
      obtain ⟨q1, _⟩ := ok_p okn
      have e1 := ratT_G (s := s) (t := M) (p := Q) (by omega)
      refine ⟨s, M, Q, rfl, okn, ?_⟩
      have B0 := ratB_pos Q
      refine Int.eq_of_mul_eq_mul_right (show ratB Q ≠ 0 by omega) ?_
      show s * (M * G Q) * b * ratB Q = t * G 0 * ratB Q
      rw [Int.mul_right_comm, ← e1, Int.mul_right_comm, c]
      simp only [Int.mul_assoc, Int.mul_comm, Int.mul_left_comm]
    · rw [if_neg c] at h
      cases h
theorem flo_left {R t b : Int} (h : FV R t b) (L : Left R) : ∃ s M Q, floM t b = some (.fin s M Q) ∧ (Fl.fin s M Q).ok ∧ vN (.fl (.fin s M Q)) = R := by
  have b0 := h.d0
  obtain ⟨a1, a2, a3⟩ := fv_abs h
  obtain ⟨s0, m, e, hs0, hR, m0, m1, e0, e1, mt⟩ := L.ex
  have okn := nearM_ok (s := sgI t) (t := absI t) (b := b) (sgI_pm t) (absI_nn t) b0
  have g := G_pos 0
  by_cases z : R = 0
  · have t0 := a3.2 z
    subst t0
    refine ⟨1, 0, 0, ?_, ⟨.inl rfl, by decide, by decide, fun _ => rfl, fun h => absurd rfl h⟩, by rw [z]; rfl⟩
    have : nearM (sgI 0) (absI 0) b = .fin 1 0 0 := by
      show nearM 1 0 b = _
      unfold nearM
      rw [if_pos rfl]
    unfold floM
    rw [this]
    show (if ratT 1 0 0 * b = 0 * ratB 0 then some (Fl.fin 1 0 0) else none) = _
    rw [show ratT 1 0 0 = 0 by decide, Int.zero_mul, Int.zero_mul, if_pos rfl]
  · have mp : 0 < m := by
      rcases Int.lt_or_eq_of_le m0 with c | c
      · exact c
      · rw [← c, Int.zero_mul, Int.mul_zero] at hR; exact absurd hR z
    have t0 : t ≠ 0 := fun k => z (a3.1 k)
    have hA : absI R = m * G e := by rw [hR]; exact absT hs0 (Int.mul_nonneg m0 (Int.le_of_lt (G_pos e)))
    rw [hA] at a1
    have hv : absI t * G 0 = m * (G e * b) := by rw [a1, Int.mul_assoc]
    have top : (9007199254740991 : Int) * G 971 < (2 ^ 1024 - 2 ^ 970) * G 0 := by decide +kernel
    have hov : ¬ ((2 : Int) ^ 1024 - 2 ^ 970) * b ≤ absI t := by
      intro k
      have k1 := Int.mul_le_mul_of_nonneg_right k (Int.le_of_lt g)
      rw [a1, Int.mul_right_comm] at k1
      have k2 := Int.le_of_mul_le_mul_right k1 b0
      omega
    have hpw : pw (absI t) b ≤ 2800 := by
      have h1 : absI t ≤ 2 ^ 1025 * b := by
        refine Int.le_of_mul_le_mul_right ?_ g
        rw [a1, Int.mul_right_comm (2 ^ 1025)]
        refine Int.mul_le_mul_of_nonneg_right ?_ (Int.le_of_lt b0)
        have : (9007199254740991 : Int) * G 971 ≤ 2 ^ 1025 * G 0 := by decide +kernel
        omega
      have h2 := bits_mono (absI_nn t) h1
      have h3 := bits_mul_pow (n := b) (Int.le_of_lt b0) 1025
      rw [Int.mul_comm] at h3
      unfold pw; split <;> omega
    obtain ⟨M, Q, o1, o2, o3, o4⟩ := near_outP (s := sgI t) (absI_pos t0) b0 hpw mp m1 e0 (by omega) hv hov
    rw [o1] at okn
    have sR : sgI R = s0 := by rw [hR]; exact sgT hs0 (Int.mul_pos mp (G_pos e))
    refine ⟨sgI t, M, Q, ?_, okn, ?_⟩
    · unfold floM
      rw [o1]
      have c : ratT (sgI t) M Q * b = t * ratB Q := by
        have e1 := ratT_G (s := sgI t) (t := M) (p := Q) (by omega)
        refine Int.eq_of_mul_eq_mul_right (show G 0 ≠ 0 by omega) ?_
        rw [Int.mul_right_comm, e1, o4, Int.mul_right_comm t]
        have : t * G 0 = sgI t * (m * (G e * b)) := by
          rw [← hv, ← Int.mul_assoc, ← sg_absI]
        rw [this]
        simp only [Int.mul_assoc, Int.mul_comm, Int.mul_left_comm]
      show (if ratT (sgI t) M Q * b = t * ratB Q then some (Fl.fin (sgI t) M Q) else none) = _
      rw [if_pos c]
    · show sgI t * (M * G Q) = R
      rw [o4, a2, sR, hR]
/-- the rest's fraction -/
theorem rest_fv {v N D s M Q : Int} (h : FV v N D) (hw : (Fl.fin s M Q).ok) : FV (v - vN (.fl (.fin s M Q))) (N * ratB Q - ratT s M Q * D) (D * ratB Q) := by
  obtain ⟨q1, _⟩ := ok_p hw
  have e1 := ratT_G (s := s) (t := M) (p := Q) (by omega)
  refine ⟨?_, Int.mul_pos h.d0 (ratB_pos Q)⟩
  show _ = (v - s * (M * G Q)) * _
  rw [Int.sub_mul, Int.mul_right_comm, h.e, Int.mul_right_comm (ratT s M Q), e1, Int.sub_mul]
  congr 1
  · simp only [Int.mul_assoc]
  · simp only [Int.mul_assoc, Int.mul_comm, Int.mul_left_comm]
theorem near_val {v N D M Q s : Int} (h : FV v N D) (hN : N ≠ 0) (hpw : pw (absI N) D ≤ 2800) (e : nearM s (absI N) D = .fin s M Q) : ∃ W p, NearV (absI v) W p ∧ p ≤ 971 ∧ M * G Q = W * G p := by
  have D0 := h.d0
  obtain ⟨a1, a2, a3⟩ := fv_abs h
  have n := near_whP (absI_pos hN) D0 hpw
  unfold nearM at e
  rw [if_neg (by have := absI_pos hN; omega)] at e
  by_cases c : 1024 < bits (wh (absI N) D) + p2 (absI N) D
  · rw [if_pos c] at e
    cases e
  · rw [if_neg c] at e
    injection e with e1 e2 e3
    have n2 : Near (absI v) (G 0) (wh (absI N) D) (p2 (absI N) D) := n.cross (G_pos 0) D0 (by rw [a1])
    refine ⟨_, _, n2.toV, ?_, ?_⟩
    · have nw := near_w n D0
      by_cases k : -1074 < p2 (absI N) D
      · have h1 := nw k
        rcases Int.lt_or_le (bits (wh (absI N) D)) 53 with c2 | c2
        · have := (bits_lt_pow (k := 52) n.w0).1 (show bits (wh (absI N) D) ≤ ((52 : Nat) : Int) by omega)
          rw [show (2 : Int) ^ 52 = 4503599627370496 by decide] at this
          omega
        · omega
      · omega
    · rw [← e2, ← e3]
      rcases Int.lt_or_eq_of_le n.w0 with w | w
      · exact red_G w (by have := n.p0; omega)
      · rw [← w, red_zero, Int.zero_mul, Int.zero_mul]
theorem sgv {s v x W : Int} (hs : sgI v = s) : s * (absI v - W * x) = v - s * (W * x) := by
  rw [Int.mul_sub, ← hs, ← sg_absI]
/-- the sum of two floats: what is left is a float -/
theorem sum_left {s t p r u q S M Q : Int} (hf : (Fl.fin s t p).ok) (hg : (Fl.fin r u q).ok) (h : addM (.fin s t p) (.fin r u q) = .fin S M Q) :
    Left (vN (.fl (.fin s t p)) + vN (.fl (.fin r u q)) - vN (.fl (.fin S M Q))) := by
  have fv := add_fv hf hg
  obtain ⟨a1, a2, a3⟩ := fv_abs fv
  rw [addM_ff] at h
  by_cases d : t = 0 ∧ u = 0
  · rw [if_pos d] at h
    injection h with e1 e2 e3
    have z1 := (v_zero hf).2 d.1
    have z2 := (v_zero hg).2 d.2
    have z3 : vN (.fl (.fin S M Q)) = 0 := by
      show S * (M * G Q) = 0
      rw [← e2, Int.zero_mul, Int.mul_zero]
    rw [show vN (.fl (.fin s t p)) + vN (.fl (.fin r u q)) - vN (.fl (.fin S M Q)) = 0 by omega]
    exact Left.zero
  · rw [if_neg d] at h
    have h : nearM (sgI (ratT s t p * ratB q + ratT r u q * ratB p)) (absI (ratT s t p * ratB q + ratT r u q * ratB p)) (ratB p * ratB q) = .fin S M Q := h
    by_cases c : ratT s t p * ratB q + ratT r u q * ratB p = 0
    · rw [c] at h
      have h : nearM 1 0 (ratB p * ratB q) = .fin S M Q := h
      unfold nearM at h
      rw [if_pos rfl] at h
      injection h with e1 e2 e3
      have z3 : vN (.fl (.fin S M Q)) = 0 := by
        show S * (M * G Q) = 0
        rw [← e2, Int.zero_mul, Int.mul_zero]
      have := a3.1 c
      rw [show vN (.fl (.fin s t p)) + vN (.fl (.fin r u q)) - vN (.fl (.fin S M Q)) = 0 by omega]
      exact Left.zero
    · have hS : S = sgI (ratT s t p * ratB q + ratT r u q * ratB p) := by
        unfold nearM at h
        split at h
        · injection h with e1 _ _; exact e1.symm
        · split at h
          · cases h
          · injection h with e1 _ _; exact e1.symm
      rw [← hS] at h
      have hpw := pw_of (b := ratB p * ratB q) (k := 2150) (by rw [absI_bits]; exact top_bits hf hg) (by decide)
      obtain ⟨W, P, nv, p1, eW⟩ := near_val fv c hpw h
      have sv : sgI (vN (.fl (.fin s t p)) + vN (.fl (.fin r u q))) = S := by rw [hS, a2]
      have eR := sgv (x := G P) (W := W) sv
      have eV : vN (.fl (.fin S M Q)) = S * (W * G P) := by show S * (M * G Q) = _; rw [eW]
      rw [eV, ← eR]
      have hs : S = 1 ∨ S = -1 := by rw [hS]; exact sgI_pm _
      refine Left.neg ?_ hs
      have ea : absI (vN (.fl (.fin s t p)) + vN (.fl (.fin r u q))) = S * vN (.fl (.fin s t p)) + S * vN (.fl (.fin r u q)) := by
        rw [← Int.mul_add, ← sv]
        unfold sgI absI
        split <;> omega
      have pf : ∀ {s' t' p' : Int}, (Fl.fin s' t' p').ok → S * vN (.fl (.fin s' t' p')) = t' * G p' ∨ S * vN (.fl (.fin s' t' p')) = -(t' * G p') := fun {s' t' p'} hk => by
        show S * (s' * (t' * G p')) = _ ∨ S * (s' * (t' * G p')) = _
        rcases hs with k1 | k1 <;> rcases hk.1 with k2 | k2 <;> rw [k1, k2] <;> omega
      obtain ⟨f1, f2⟩ := ok_p hf
      obtain ⟨g1, g2⟩ := ok_p hg
      have tf := top_lt hf
      have tg := top_lt hg
      rcases Int.le_total p q with k | k
      · exact rest_sum nv ea (pf hf) (pf hg) hf.2.1 hf.2.2.1 hg.2.1 hg.2.2.1 f1 (by omega) g1 (absI_nn _) k tf
      · exact rest_sum nv (by rw [ea, Int.add_comm]) (pf hg) (pf hf) hg.2.1 hg.2.2.1 hf.2.1 hf.2.2.1 g1 (by omega) f1 (absI_nn _) k tg
theorem G_mul {p q : Int} (hp : -1074 ≤ p) (hq : -1074 ≤ q) : G p * G q = G (p + q) * G 0 := by
  unfold G
  rw [← Int.pow_add, ← Int.pow_add]
  congr 1
  omega
theorem mul_fv {s t p r u q : Int} (hf : (Fl.fin s t p).ok) (hg : (Fl.fin r u q).ok) : FV (s * r * (t * u * G (p + q))) (ratT s t p * ratT r u q) (ratB p * ratB q) := by
  obtain ⟨p1, _⟩ := ok_p hf
  obtain ⟨q1, _⟩ := ok_p hg
  have e1 := ratT_G (s := s) (t := t) (p := p) (by omega)
  have e2 := ratT_G (s := r) (t := u) (p := q) (by omega)
  have g := G_pos 0
  refine ⟨?_, Int.mul_pos (ratB_pos p) (ratB_pos q)⟩
  refine Int.eq_of_mul_eq_mul_right (show G 0 ≠ 0 by omega) ?_
  have a1 : ratT s t p * ratT r u q * G 0 * G 0 = ratT s t p * G 0 * (ratT r u q * G 0) := by simp only [Int.mul_assoc, Int.mul_comm, Int.mul_left_comm]
  rw [a1, e1, e2]
  have a2 : s * (t * G p) * ratB p * (r * (u * G q) * ratB q) = s * r * (t * u * (G p * G q)) * (ratB p * ratB q) := by simp only [Int.mul_assoc, Int.mul_comm, Int.mul_left_comm]
  rw [a2, G_mul p1 q1]
  simp only [Int.mul_assoc, Int.mul_comm, Int.mul_left_comm]
theorem mul_ff (s t p r u q : Int) : mulM (.fin s t p) (.fin r u q) = nearM (s * r) (absI (ratT s t p * ratT r u q)) (ratB p * ratB q) := by
  unfold mulM
  rw [if_neg (show ¬ (isNan (.fin s t p) || isNan (.fin r u q)) = true from Bool.false_ne_true), if_neg (show ¬ (isInf (.fin s t p) || isInf (.fin r u q)) = true from Bool.false_ne_true)]
/-- the product of two floats that is not too small: what is left is a float -/
theorem mul_left {s t p r u q S M Q : Int} (hf : (Fl.fin s t p).ok) (hg : (Fl.fin r u q).ok) (h : mulM (.fin s t p) (.fin r u q) = .fin S M Q) (hl : G (-900) ≤ t * u * G (p + q)) :
    Left (s * r * (t * u * G (p + q)) - vN (.fl (.fin S M Q))) := by
  have fv := mul_fv hf hg
  obtain ⟨a1, a2, a3⟩ := fv_abs fv
  rw [mul_ff] at h
  have hs : s * r = 1 ∨ s * r = -1 := pm_mul hf.1 hg.1
  have g9 := G_pos (-900)
  have v0 : s * r * (t * u * G (p + q)) ≠ 0 := by rcases hs with k | k <;> rw [k] <;> omega
  have N0 : ratT s t p * ratT r u q ≠ 0 := fun z => v0 (a3.1 z)
  have hS : S = s * r := by
    unfold nearM at h
    split at h
    · injection h with e1 _ _; exact e1.symm
    · split at h
      · cases h
      · injection h with e1 _ _; exact e1.symm
  rw [← hS] at h
  have hpw : pw (absI (ratT s t p * ratT r u q)) (ratB p * ratB q) ≤ 2800 := pw_of (k := 2050) (by
    rw [absI_bits]
    have := bits_mul (ratT s t p) (ratT r u q)
    have := ratT_b hf
    have := ratT_b hg
    omega) (by decide)
  obtain ⟨W, P, nv, p1, eW⟩ := near_val fv N0 hpw h
  have eA : absI (s * r * (t * u * G (p + q))) = t * u * G (p + q) := absT hs (by omega)
  rw [eA] at nv
  have eV : vN (.fl (.fin S M Q)) = s * r * (W * G P) := by show S * (M * G Q) = _; rw [eW, hS]
  rw [eV, ← Int.mul_sub]
  refine Left.neg ?_ hs
  obtain ⟨f1, f2⟩ := ok_p hf
  obtain ⟨g1, g2⟩ := ok_p hg
  exact rest_prod nv rfl hf.2.1 hf.2.2.1 hg.2.1 hg.2.2.1 (by omega) (by omega) p1 hl
/-- where no float is just the rest, the product is small -/
theorem mul_small {s t p r u q : Int} (hf : (Fl.fin s t p).ok) (hg : (Fl.fin r u q).ok) (hl : t * u * G (p + q) < G (-900)) :
    absI (lowM (ratT s t p * ratT r u q) (ratB p * ratB q)).1 * 2 ^ 900 < (lowM (ratT s t p * ratT r u q) (ratB p * ratB q)).2 := by
  have fv := mul_fv hf hg
  obtain ⟨a1, a2, a3⟩ := fv_abs fv
  have l := low_d (t := ratT s t p * ratT r u q) fv.d0
  have D0 := fv.d0
  have e := l.e
  have y0 := l.y0
  have hs : s * r = 1 ∨ s * r = -1 := pm_mul hf.1 hg.1
  have tu : 0 ≤ t * u * G (p + q) := Int.mul_nonneg (Int.mul_nonneg hf.2.1 hg.2.1) (Int.le_of_lt (G_pos _))
  rw [absT hs tu] at a1
  have eA : absI (lowM (ratT s t p * ratT r u q) (ratB p * ratB q)).1 * (ratB p * ratB q) = absI (ratT s t p * ratT r u q) * (lowM (ratT s t p * ratT r u q) (ratB p * ratB q)).2 := by
    generalize (lowM (ratT s t p * ratT r u q) (ratB p * ratB q)).1 = x at *
    generalize (lowM (ratT s t p * ratT r u q) (ratB p * ratB q)).2 = y at *
    generalize ratT s t p * ratT r u q = N at *
    generalize ratB p * ratB q = D at *
    unfold absI
    rcases Int.lt_trichotomy N 0 with c | c | c
    · have h1 := Int.mul_neg_of_neg_of_pos c y0
      have h2 : x < 0 := by
        rcases Int.lt_or_le x 0 with k | k
        · exact k
        · have := Int.mul_nonneg k (Int.le_of_lt D0); omega
      rw [if_pos h2, if_pos c, Int.neg_mul, Int.neg_mul, e]
    · rw [c, Int.zero_mul] at e
      have h2 : x = 0 := by
        rcases Int.mul_eq_zero.1 e with k | k
        · exact k
        · omega
      rw [h2, c]
      show 0 * D = 0 * y
      rw [Int.zero_mul, Int.zero_mul]
    · have h1 := Int.mul_pos c y0
      have h2 : 0 < x := by
        rcases Int.lt_or_le 0 x with k | k
        · exact k
        · have := Int.mul_le_mul_of_nonneg_right k (Int.le_of_lt D0); omega
      rw [if_neg (by omega), if_neg (by omega), e]
  generalize (lowM (ratT s t p * ratT r u q) (ratB p * ratB q)).1 = x at *
  generalize (lowM (ratT s t p * ratT r u q) (ratB p * ratB q)).2 = y at *
  generalize ratT s t p * ratT r u q = N at *
  generalize ratB p * ratB q = D at *
  generalize absI N = A at *
  generalize absI x = B at *
  generalize t * u * G (p + q) = S at *
  -- B * D = A * y, A * G 0 = S * D, S < G (-900)
  have g := G_pos 0
  have e9 : G 0 = 2 ^ 900 * G (-900) := by
    have := G_add (e := -900) 900 (by decide)
    rwa [show (-900 : Int) + (900 : Nat) = 0 by decide] at this
  have h1 : B * 2 ^ 900 * (D * G (-900)) = S * (D * y) := by
    have : B * 2 ^ 900 * (D * G (-900)) = B * D * (2 ^ 900 * G (-900)) := by simp only [Int.mul_assoc, Int.mul_comm, Int.mul_left_comm]
    rw [this, ← e9, eA, Int.mul_right_comm, a1]
    simp only [Int.mul_assoc, Int.mul_comm, Int.mul_left_comm]
  have h2 : S * (D * y) < G (-900) * (D * y) := Int.mul_lt_mul_of_pos_right hl (Int.mul_pos D0 y0)
  rw [← h1, show G (-900) * (D * y) = y * (D * G (-900)) by simp only [Int.mul_assoc, Int.mul_comm, Int.mul_left_comm]] at h2
  exact Int.lt_of_mul_lt_mul_right h2 (Int.le_of_lt (Int.mul_pos D0 (G_pos _)))
end Nu

set_option Elab.async false
set_option linter.all false
set_option maxRecDepth 100000
set_option autoImplicit false
set_option maxHeartbeats 4000000
/-! A list of anything, beside the empty list. -/
namespace Rd
open PySem PySem.Spec PyProof.Rows L2
def rNeNil (K : PySem.W.Frag) : R2 := fun x y H Q => ∃ l b xs, x = .ref l ∧ y = .ref b ∧ SqL K H l xs ∧ SqL K H b [] ∧ Q (.bl (!xs.isEmpty)) H
theorem op_neNil {X : Cx} (hu : X.A.units + 64 < cLine) : OpR X (compareOp .NotEq) (rNeNil X.K) := by
  intro pins s σ H x y v u Q I rx ry h
  obtain ⟨l, b, xs, rfl, rfl, hl, hb, q⟩ := h
  cases rx
  cases ry
  obtain ⟨its, r, e, z⟩ := I.list hl
  obtain ⟨its2, r2, e2, z2⟩ := I.list hb
  have l1 := r.length
  have l2 := r2.length
  have z0 : its2 = [] := List.length_eq_zero_iff.1 (by rw [← l2]; rfl)
  subst z0
  have go : ∀ k, k = !xs.isEmpty → SeqAt.RcNeAt X.A s (.ref l) (.ref b) k → wpAny (model X.prog X.w) X.A (compareOp .NotEq (.ref l) (.ref b)) (EP X pins σ Q) X.xe s := fun k hk h => by
    refine h _ _ _ _ ?_
    rw [hk]
    exact ⟨.bl _, H, I, rfl, q⟩
  cases xs with
  | nil =>
    have z1 : its = [] := List.length_eq_zero_iff.1 (by rw [← l1]; rfl)
    subst z1
    refine go false rfl ?_
    exact SeqAt.RcNeAt.lists (e := fun _ => true) e.isList e2.isList rfl (by omega) (fun j h1 h2 => absurd h1 (by simp))
  | cons x xs =>
    refine go true rfl ?_
    refine SeqAt.RcNeAt.lists_lengths e.isList e2.isList ?_ (by omega)
    cases its with
    | nil => cases l1
    | cons a as => rfl
/-- e.f, where the reading must not speak of the context -/
theorem pe_fldK {X : Cx} {K : PySem.W.Frag} {e : Expr} {f : Str} {pos : Pos} {ta : TE} (he : PE X e ta) (hb : attributeBase e f X.env (eval e X.env) = eval e X.env) (hk : X.K = K := by rfl) : PE X (.Attribute e f pos) (tFld K ta f) := hk ▸ pe_fld he hb
section
variable {H : Hp} {K : PySem.W.Frag} {l b : Addr} {xs : List V} {Q : VK}
theorem w_neNil (h1 : SqL K H l xs) (h2 : H b = some (.lst [])) (q : Q (.bl (!xs.isEmpty)) H) : rNeNil K (.ref l) (.ref b) H Q := ⟨l, b, xs, rfl, rfl, h1, SqL.of h2, q⟩
end
end Rd

set_option Elab.async false
set_option linter.all false
set_option maxRecDepth 100000
set_option autoImplicit false
set_option maxHeartbeats 4000000
namespace Nu
open PySem PySem.Spec PyProof.Rows L2 Rd
local macro_rules | `(tactic| walk_at "hp") => `(tactic| first | assumption | (refine same_get ?sm ?_; (case sm => assumption); walk_at "hp"))
local macro_rules | `(tactic| walk_at "rd") => `(tactic| first
  | with_reducible refine w_nx ?_
  | with_reducible refine w_rt ?_
  | with_reducible refine w_bk ?_
  | with_reducible refine w_ct ?_
  | with_reducible refine w_seq ?_
  | with_reducible refine w_next ?_
  | with_reducible refine w_ret ?_
  | with_reducible refine w_ifS ?_
  | with_reducible refine w_asg ?_
  | with_reducible refine w_name ?_
  | with_reducible refine w_par ?_
  | with_reducible refine w_parI ?_
  | with_reducible refine w_ii ?_
  | with_reducible refine w_i1 ?_
  | with_reducible refine w_drop ?_
  | with_reducible refine w_sFld ?_
  | ((with_reducible refine' w_var ?rdh ?_); (case rdh => exact rfl))
  | with_reducible refine w_c ?_
  | with_reducible refine w_op ?_
  | with_reducible refine w_un ?_
  | with_reducible refine w_I0 ?_
  | with_reducible refine w_U ?_
  | with_reducible refine w_bits ?_
  | with_reducible refine w_bitsI ?_
  | with_reducible refine w_tup ?_
  | with_reducible refine w_lst ?_
  | with_reducible refine w_nil ?_
  | with_reducible refine w_cons ?_
  | with_reducible refine w_fld ?_
  | with_reducible refine w_call ?_
  | with_reducible refine w_make ?_
  | with_reducible refine w_gsub ?_
  | with_reducible refine w_int1 ?_
  | with_reducible refine w_intB ?_
  | with_reducible refine w_for ?_
  | with_reducible refine w_rng1 ?_
  | with_reducible refine w_iList ?_
  | with_reducible refine w_iTup ?_
  | with_reducible refine w_makeD ?_
  | with_reducible refine w_nn ?_
  | with_reducible refine w_subB ?_
  | with_reducible refine w_meth ?_
  | with_reducible refine w_cb ?_
  | with_reducible refine w_test ?_
  | with_reducible refine w_B ?_
  | with_reducible refine w_bl ?_
  | with_reducible refine w_andV ?_
  | with_reducible refine w_orV ?_
  | with_reducible refine w_notV ?_
  | with_reducible refine w_and ?_
  | with_reducible refine w_or ?_
  | with_reducible refine w_not ?_
  | with_reducible refine w_if ?_
  | with_reducible refine w_gnil ?_
  | with_reducible refine w_gcons ?_
  | with_reducible refine iT ?_
  | with_reducible refine iF ?_
  | with_reducible refine w_eqI ?_
  | with_reducible refine w_neI ?_
  | with_reducible refine w_eqS ?_
  | with_reducible refine w_eqIS ?_
  | with_reducible refine w_eqSI ?_)

abbrev s_is_number : Stmt := top 20
abbrev s_as_fraction : Stmt := top 48
abbrev s_exact_sum : Stmt := top 49
abbrev s_float_of : Stmt := top 50
abbrev s_split_by : Stmt := top 51
abbrev s_split_sum : Stmt := top 52
abbrev s_split_product : Stmt := top 53
structure AllS (K : PySem.W.Frag) (mg : Str → Option Value) (CF : Addr) : Prop extends AllO K mg CF where
  b_list : mg "list" = none
  b_any : mg "any" = none
  x_is_number : Tx K mg "is_number" "is_number" s_is_number ["thing"]
  x_as_fraction : Tx K mg "as_fraction" "as_fraction" s_as_fraction ["number"]
  x_exact_sum : Tx K mg "exact_sum" "exact_sum" s_exact_sum ["numbers"]
  x_float_of : Tx K mg "float_of" "float_of" s_float_of ["top", "bottom"]
  x_split_by : Tx K mg "split_by" "split_by" s_split_by ["whole", "one", "other", "is_product"]
  x_split_sum : Tx K mg "split_sum" "split_sum" s_split_sum ["one", "other"]
  x_split_product : Tx K mg "split_product" "split_product" s_split_product ["one", "other"]
/-- numbers in a list -/
structure NL (CF : Addr) (H : Hp) (xs : List L2.V) (ns : List Nm) : Prop where
  len : xs.length = ns.length
  get : ∀ (i : Nat) (x : L2.V), xs[i]? = some x → ∃ n, ns[i]? = some n ∧ NmAt CF H x n ∧ FinN n
theorem NL.same {CF : Addr} {H H' : Hp} {xs : List L2.V} {ns : List Nm} (h : NL CF H xs ns) (s : Same H H') : NL CF H' xs ns := ⟨h.len, fun i x e => let ⟨n, e', k, f⟩ := h.get i x e; ⟨n, e', k.same s, f⟩⟩
theorem NL.fin {CF : Addr} {H : Hp} {xs : List L2.V} {ns : List Nm} (h : NL CF H xs ns) : ∀ n ∈ ns, FinN n := fun n hn => by
  obtain ⟨i, hi⟩ := List.mem_iff_getElem?.1 hn
  have hl : i < xs.length := by rw [h.len]; exact (List.getElem?_eq_some_iff.1 hi).1
  obtain ⟨m, e, _, f⟩ := h.get i xs[i] (List.getElem?_eq_getElem hl)
  rw [hi] at e
  cases e
  exact f
theorem take_succ' {α : Type} {xs : List α} {i : Nat} {x : α} (h : xs[i]? = some x) : xs.take (i + 1) = xs.take i ++ [x] := by
  rw [List.take_succ, h]
  rfl
theorem sumV_step {ns : List Nm} {i : Nat} {n : Nm} (h : ns[i]? = some n) : sumV (ns.take (i + 1)) = sumV (ns.take i) + vN n := by
  rw [take_succ' h, sumV_app]
  show _ + (vN n + 0) = _
  omega
theorem lowV0 : lowV 0 = (0, 1) := (LV.eq ⟨by rw [Int.zero_mul, Int.zero_mul], by decide, by decide⟩).symm
theorem w_lenT2 {K : PySem.W.Frag} {H : Hp} {a : Addr} {bs : List Bool} {Q : VK} (h : H a = some (.lst (bs.map L2.V.bl))) (q : Q (.bl (bs.all id)) H) : rAll K [.ref a] H Q := ⟨a, bs, rfl, SqL.of h, q⟩
theorem all_rep : ∀ n : Nat, (List.replicate n true).all id = true
  | 0 => rfl
  | n + 1 => by rw [List.replicate_succ, List.all_cons, all_rep n]; rfl
theorem any_rep : ∀ n : Nat, (List.replicate n false).any id = false
  | 0 => rfl
  | n + 1 => by rw [List.replicate_succ, List.any_cons, any_rep n]; rfl
theorem lt_line {i n : Nat} (h : i < n) (hn : n ≤ 1000) : i < sizeLine := Nat.lt_of_lt_of_le h (Nat.le_trans hn (by decide))
section
variable {P : Program} {w : World} {K : PySem.W.Frag} {mg : Str → Option Value} {base : Heap} {CF : Addr}
def spNum (K : PySem.W.Frag) (CF : Addr) : Sp := fun vs H Q _ => ∃ x pl bo st fl, vs = [x] ∧ Says K CF H x pl bo st fl ∧ Q (.bl (fl || ((pl || bo) && !bo))) H
theorem sc_is_number : FnScope ["thing"] ["thing"] (defScope s_is_number) := ⟨rfl, rfl, rfl, by decide +kernel, rfl, by decide +kernel, by decide +kernel⟩
theorem ok_is_number (T : AllS K mg CF) (k_is_plain : Kn P w K mg base CX0 1 "is_plain" ["number"] (spPlain K CF)) : Kn P w K mg base CX0 2 "is_number" ["thing"] (spNum K CF) := by
  refine T.x_is_number.kn fun f fd F => ?_
  refine F.ok sc_is_number (fun vs H Q E h => ?_) (fun cdv A outer s H vs Q E hr h => ?_)
  · obtain ⟨x, pl, bo, st, fl, rfl, _⟩ := h
    rfl
  · obtain ⟨x, pl, bo, st, fl, rfl, hs, q⟩ := h
    refine ⟨_, (pss_one (ps_ret (pe_or (pe_callB call_isi (by rfl) T.b_isinstance boot_isinstance (pa_cons (pv 0) (pa_cons (pg "Float" T.g_Float (rref _)) pa_nil))) (pe_one (pk k_is_plain hr (pa_cons (pv 0) pa_nil)))))), ?_⟩
    obtain ⟨t, ty, i1, i2, i3, i4⟩ := id hs
    repeat walk_at "rd"
    refine w_isi (.own CF) ty i4 ?_
    repeat walk_at "rd"
    cases fl with
    | true =>
      repeat walk_at "rd"
      exact q
    | false =>
      repeat walk_at "rd"
      refine ⟨x, pl, bo, st, false, rfl, hs, ?_⟩
      rwa [Bool.false_or] at q
theorem u_num {x : L2.V} {n : Nm} {H : Hp} {Q : VK} {E : XK} (T : AllS K mg CF) (h : NmAt CF H x n) (q : Q (.bl true) H) : spNum K CF ([x] ++ []) H Q E := by
  obtain ⟨pl, fl, hs, h1, _⟩ := h.says T.toAll
  refine ⟨x, pl, false, false, fl, rfl, hs, ?_⟩
  rw [h1]
  exact q
def spFrac (CF : Addr) : Sp := fun vs H Q _ => ∃ x n, vs = [x] ∧ NmAt CF H x n ∧ FinN n ∧ ∀ q H', Same H H' → H' q = some (.tup [.int (ratN n).1, .int (ratN n).2]) → Q (.ref q) H'
theorem sc_as_fraction : FnScope ["number"] ["number"] (defScope s_as_fraction) := ⟨rfl, rfl, rfl, by decide +kernel, rfl, by decide +kernel, by decide +kernel⟩
theorem ok_as_fraction (T : AllS K mg CF) (k_Float_ratio : KnM P w K mg base CX0 1 CF "ratio" ["self"] (spRatio CF)) : Kn P w K mg base CX0 2 "as_fraction" ["number"] (spFrac CF) := by
  refine T.x_as_fraction.kn fun f fd F => ?_
  refine F.ok sc_as_fraction (fun vs H Q E h => ?_) (fun cdv A outer s H vs Q E hr h => ?_)
  · obtain ⟨x, n, rfl, _⟩ := h
    rfl
  · obtain ⟨x, n, rfl, hx, fn, q⟩ := h
    refine ⟨_, (pss_one (ps_ret (pe_ifExp (pt_val (pe_callB call_isi (by rfl) T.b_isinstance boot_isinstance (pa_cons (pv 0) (pa_cons (pg "Float" T.g_Float (rref _)) pa_nil)))) (pkM0 k_Float_ratio T.l_Float hr (pv 0) rfl) (pe_tup (pa_cons (pv 0) (pa_cons pe_int pa_nil)))))), ?_⟩
    obtain ⟨pl, fl, ⟨t, ty, i1, i2, i3, i4⟩, _, e⟩ := hx.says T.toAll
    repeat walk_at "rd"
    refine w_isi (.own CF) ty i4 ?_
    rw [e]
    cases n with
    | int i =>
      obtain ⟨rfl, _⟩ := hx
      repeat walk_at "rd"
      exact w_tup2 fun a1 H1 s1 n1 e1 => q a1 H1 s1 e1
    | fl f =>
      obtain ⟨s, t, p, rfl, ok⟩ := fn.fl
      obtain ⟨a, rfl, hf, _⟩ := hx
      obtain ⟨dx, h1⟩ := id hf
      repeat walk_at "rd"
      refine w_methI h1 (lk_rat _ _ _) ?_
      repeat walk_at "rd"
      exact ⟨a, s, t, p, rfl, hf, ok, fun q2 H2 s2 n2 e2 => q q2 H2 s2 e2⟩
theorem u_frac {x : L2.V} {n : Nm} {H : Hp} {Q : VK} {E : XK} (h : NmAt CF H x n) (f : FinN n) (q : ∀ q H', Same H H' → H' q = some (.tup [.int (ratN n).1, .int (ratN n).2]) → Q (.ref q) H') : spFrac CF ([x] ++ []) H Q E := ⟨x, n, rfl, h, f, q⟩
def spSum (CF : Addr) : Sp := fun vs H Q _ => ∃ a xs ns, vs = [.ref a] ∧ H a = some (.lst xs) ∧ NL CF H xs ns ∧ xs.length ≤ 1000 ∧ ∀ x H', Same H H' → FlAt CF H' x (sumM ns) → Q (.ref x) H'
theorem sc_exact_sum : FnScope ["numbers", "number", "top", "bottom", "more", "are_below"] ["numbers"] (defScope s_exact_sum) := ⟨rfl, rfl, rfl, by decide +kernel, rfl, by decide +kernel, by decide +kernel⟩
theorem ok_exact_sum (T : AllS K mg CF) (k_is_number : Kn P w K mg base CX0 2 "is_number" ["thing"] (spNum K CF)) (k_Float_is_finite : KnM P w K mg base CX0 1 CF "is_finite" ["self"] (spFinite CF)) (k_as_fraction : Kn P w K mg base CX0 2 "as_fraction" ["number"] (spFrac CF))
    (k_lowered : Kn P w K mg base CX0 1 "lowered" ["top", "bottom"] spLow) (k_nearest : Kn P w K mg base CX0 5 "nearest" ["sign", "top", "bottom"] (spNear CF)) (k_sign_of : Kn P w K mg base CX0 1 "sign_of" ["is_negative"] spSign) (k_Float_init : KnC P w K mg base CX0 2 "Float" CF ["self", "sign", "top", "power"] (spInit CF)) :
    Kn P w K mg base CX0 6 "exact_sum" ["numbers"] (spSum CF) := by
  refine T.x_exact_sum.kn fun f fd F => ?_
  refine F.ok sc_exact_sum (fun vs H Q E h => ?_) (fun cdv A outer s H vs Q E hr h => ?_)
  · obtain ⟨a, xs, ns, rfl, _⟩ := h
    rfl
  · obtain ⟨a, xs, ns, rfl, ha, nl, hl, q⟩ := h
    refine ⟨_, (pss_cons (ps_if (PW.pt (pw_or (pt_not (pt_val (pe_callB call_isi (by rfl) T.b_isinstance boot_isinstance (pa_cons (pv 0) (pa_cons (pe_bltn (by rfl) T.b_list boot_list (rty _)) pa_nil))))) (pw_or1 (pt_not (pt_val (pe_callB (cr_all rfl) (by rfl) T.b_all boot_all (pa_cons (pe_lc (own := [("number", 1)]) (g := (gName 1)) (tt := tYes) rfl sc_exact_sum.nd (pi_list (pv 0)) (blkOk_by (N := ["numbers", "number", "top", "bottom", "more", "are_below"]) (sc := defScope s_exact_sum) (by decide +kernel)) (fun _ _ _ _ _ => (pg_name (i := 1) sc_exact_sum.nd rfl (Or.inl rfl))) (fun _ _ _ _ _ => pts_nil) (fun _ _ _ _ _ => (pk k_is_number hr (pa_cons (pv 1) pa_nil)))) pa_nil))))))) (pss_one ps_never) pss_nil)
      (pss_cons (ps_if (pt_val (pe_callB (cr_any rfl) (by rfl) T.b_any boot_any (pa_cons (pe_lc (own := [("number", 1)]) (g := (gName 1)) (tt := tYes) rfl sc_exact_sum.nd (pi_list (pv 0)) (blkOk_by (N := ["numbers", "number", "top", "bottom", "more", "are_below"]) (sc := defScope s_exact_sum) (by decide +kernel)) (fun _ _ _ _ _ => (pg_name (i := 1) sc_exact_sum.nd rfl (Or.inl rfl))) (fun _ _ _ _ _ => pts_nil) (fun _ _ _ _ _ => (pe_and (pe_callB (r := rIsi K) call_isi (by rfl) T.b_isinstance boot_isinstance (pa_cons (pv 1) (pa_cons (pg "Float" T.g_Float (rref _)) pa_nil))) (pe_one (pe_not (pkM0 k_Float_is_finite T.l_Float hr (pv 1) rfl)))))) pa_nil))) (pss_one ps_never) pss_nil)
      (pss_cons (ps_asg (pe_tup (pa_cons pe_int (pa_cons pe_int pa_nil))) (pg_tup (by rfl) (pgs_cons (pg_name (i := 2) sc_exact_sum.nd rfl (Or.inl rfl)) (pgs_cons (pg_name (i := 3) sc_exact_sum.nd rfl (Or.inl rfl)) pgs_nil))))
      (pss_cons (ps_for PassesOwn.never rfl (pi_list (pv 0)) (pg_name (i := 1) sc_exact_sum.nd rfl (Or.inl rfl))
      (pss_cons (ps_set (i := 4) sc_exact_sum.nd rfl (Or.inl rfl) (pk k_as_fraction hr (pa_cons (pv 1) pa_nil)))
      (pss_cons (ps_par (by rfl) sc_exact_sum.nd (i := 2) (j := 3) rfl rfl (by decide) rfl rfl (pa_cons (pe_op op_add (pe_op op_mulX (pv 2) (pe_ix ix_tup (pv 4) pe_int (fun _ _ => rfl))) (pe_op op_mulX (pe_ix ix_tup (pv 4) pe_int (fun _ _ => rfl)) (pv 3))) (pa_cons (pe_op op_mulX (pv 3) (pe_ix ix_tup (pv 4) pe_int (fun _ _ => rfl))) pa_nil)) (by rfl))
      (pss_one (ps_asg (pk k_lowered hr (pa_cons (pv 2) (pa_cons (pv 3) pa_nil))) (pg_tup (by rfl) (pgs_cons (pg_name (i := 2) sc_exact_sum.nd rfl (Or.inl rfl)) (pgs_cons (pg_name (i := 3) sc_exact_sum.nd rfl (Or.inl rfl)) pgs_nil))))))))
      (pss_cons (ps_if (pt_cmpR op_ne (pv 2) pe_int (nomark _)) (pss_one (ps_ret (pk k_nearest hr (pa_cons (pk k_sign_of hr (pa_cons (pe_cmpR op_lt (pv 2) pe_int (nomark _)) pa_nil)) (pa_cons (pe_callB call_abs (by rfl) T.b_abs boot_abs (pa_cons (pv 2) pa_nil)) (pa_cons (pv 3) pa_nil)))))) pss_nil)
      (C8.pss_cut (ps_set (i := 5) sc_exact_sum.nd rfl (Or.inl rfl) (pe_and (pe_cmpR (op_neNil hr.units) (pv 0) (pe_lst pa_nil) (nomark _)) (pe_one (pe_callB (cr_all rfl) (by rfl) T.b_all boot_all (pa_cons (pe_lc (own := [("number", 1)]) (g := (gName 1)) (tt := tYes) rfl sc_exact_sum.nd (pi_list (pv 0)) (blkOk_by (N := ["numbers", "number", "top", "bottom", "more", "are_below"]) (sc := defScope s_exact_sum) (by decide +kernel)) (fun _ _ _ _ _ => (pg_name (i := 1) sc_exact_sum.nd rfl (Or.inl rfl))) (fun _ _ _ _ _ => pts_nil) (fun _ _ _ _ _ => (pe_and (pe_callB (r := rIsi K) call_isi (by rfl) T.b_isinstance boot_isinstance (pa_cons (pv 1) (pa_cons (pg "Float" T.g_Float (rref _)) pa_nil))) (pe_one (pe_cmpR op_lt (pe_fldK (K := K) (pv 1) rfl) pe_int (nomark _)))))) pa_nil)))))
      (pss_one (ps_ret (pkC k_Float_init hr (pa_cons (pk k_sign_of hr (pa_cons (pe_and (pv 5) (pe_one (pe_callB (cr_all rfl) (by rfl) T.b_all boot_all (pa_cons (pe_lc (own := [("number", 1)]) (g := (gName 1)) (tt := tYes) rfl sc_exact_sum.nd (pi_list (pv 0)) (blkOk_by (N := ["numbers", "number", "top", "bottom", "more", "are_below"]) (sc := defScope s_exact_sum) (by decide +kernel)) (fun _ _ _ _ _ => (pg_name (i := 1) sc_exact_sum.nd rfl (Or.inl rfl))) (fun _ _ _ _ _ => pts_nil) (fun _ _ _ _ _ => (pe_cmpR op_eq (pe_fldK (K := K) (pv 1) rfl) pe_int (nomark _)))) pa_nil)))) pa_nil)) (pa_cons pe_int (pa_cons pe_int pa_nil)))))))))))), ?_⟩
    repeat walk_at "rd"
    refine w_isi (.ty "list") (.base (.lst ha)) (b := true) (kit_ty (by decide +kernel)) ?_
    repeat walk_at "rd"
    refine iF ?_
    repeat walk_at "rd"
    refine w_lc ?_
    repeat walk_at "rd"
    refine w_iListI ha fun D nD => ?_
    refine lc_list (xs := xs) (fun i H' => Same H H' ∧ H' D = some (.lst (List.replicate i (.bl true)))) ⟨same_upd nD, upd_same⟩ (fun i H' _ p => SqL.of (p.1 _ _ ha)) ?_ ?_
    · intro i x H' hi ⟨p1, p2⟩
      have hi5 : i < xs.length := (List.getElem?_eq_some_iff.mp hi).1
      obtain ⟨n, _, hx, _⟩ := nl.get i x hi
      repeat walk_at "rd"
      refine ⟨rfl, ?_⟩
      refine w_yes ?_
      refine iT ?_
      repeat walk_at "rd"
      refine u_num T (hx.same p1) ?_
      refine ⟨_, p2, by rw [List.length_replicate]; exact lt_line hi5 hl, same_put p1 nD, ?_⟩
      rw [upd_same, List.replicate_succ']
    intro H1 ⟨s1, e1⟩
    repeat walk_at "rd"
    refine w_lenT2 (bs := List.replicate xs.length true) (by rw [List.map_replicate]; exact e1) ?_
    rw [all_rep]
    repeat walk_at "rd"
    refine iF ?_
    repeat walk_at "rd"
    refine w_lc ?_
    repeat walk_at "rd"
    have ha := s1 _ _ ha
    have nl := nl.same s1
    clear e1 nD
    refine w_iListI ha fun D nD => ?_
    refine lc_list (xs := xs) (fun i H' => Same H1 H' ∧ H' D = some (.lst (List.replicate i (.bl false)))) ⟨same_upd nD, upd_same⟩ (fun i H' _ p => SqL.of (p.1 _ _ ha)) ?_ ?_
    · intro i x H' hi ⟨p1, p2⟩
      have hi5 : i < xs.length := (List.getElem?_eq_some_iff.mp hi).1
      obtain ⟨n, _, hx, fn⟩ := nl.get i x hi
      have hx := hx.same p1
      obtain ⟨pl, fl, ⟨t, ty, i1, i2, i3, i4⟩, _, e⟩ := hx.says T.toAll
      repeat walk_at "rd"
      refine ⟨rfl, ?_⟩
      refine w_yes ?_
      refine iT ?_
      repeat walk_at "rd"
      refine w_isi (.own CF) ty i4 ?_
      rw [e]
      cases n with
      | int i =>
        repeat walk_at "rd"
        refine ⟨_, p2, by rw [List.length_replicate]; exact lt_line hi5 hl, same_put p1 nD, ?_⟩
        rw [upd_same, List.replicate_succ']
      | fl f =>
        obtain ⟨s, t, p, rfl, ok⟩ := fn.fl
        obtain ⟨b, rfl, hf, _⟩ := hx
        obtain ⟨dx, h1⟩ := id hf
        repeat walk_at "rd"
        refine w_methI h1 (lk_fin _ _ _) ?_
        repeat walk_at "rd"
        refine ⟨b, _, rfl, hf, ?_⟩
        repeat walk_at "rd"
        refine ⟨_, p2, by rw [List.length_replicate]; exact lt_line hi5 hl, same_put p1 nD, ?_⟩
        rw [upd_same, List.replicate_succ']
        rfl
    intro H2 ⟨s2, e2⟩
    repeat walk_at "rd"
    refine ⟨D, List.replicate xs.length false, rfl, SqL.of (by rw [List.map_replicate]; exact e2), ?_⟩
    rw [any_rep]
    repeat walk_at "rd"
    refine w_tup2 fun q3 H3 s3 n3 e3 => ?_
    repeat walk_at "rd"
    refine w_gtup e3 rfl ?_
    repeat walk_at "rd"
    have S3 := s1.trans (s2.trans s3)
    have ha := (s2.trans s3) _ _ ha
    have nl := nl.same (s2.trans s3)
    have q : ∀ x H', Same H3 H' → FlAt CF H' x (sumM ns) → Q (.ref x) H' := fun x H' s' => q x H' (S3.trans s')
    clear S3 e3 e2 n3 nD
    refine w_iListI ha ?_
    refine for_list (xs := xs) (fun i σ' H' => Same H3 H' ∧ ∃ u1 u2 u3, σ' = [some (.ref a), u1, some (.int (lowV (sumV (ns.take i))).1), some (.int (lowV (sumV (ns.take i))).2), u2, u3]) ⟨Same.refl _, _, _, _, by rw [List.take_zero, show sumV [] = 0 from rfl, lowV0]; rfl⟩ (fun i σ H' _ p => SqL.of (p.1 _ _ ha)) ?_ ?_
    · rintro i x σ' H' hi ⟨p1, u1, u2, u3, rfl⟩
      obtain ⟨n, hn, hx, fn⟩ := nl.get i x hi
      have hx := hx.same p1
      have hil : i < xs.length := (List.getElem?_eq_some_iff.mp hi).1
      repeat walk_at "rd"
      refine u_frac hx fn fun q4 H4 s4 e4 => ?_
      obtain ⟨r1, r2, r3, r4⟩ := rat_v fn
      have sb := sumB_l (ns := ns.take i) (fun m hm => nl.fin m (List.mem_of_mem_take hm))
      obtain ⟨b1, b2⟩ := lv_bits sb (by rw [List.length_take]; omega)
      have e := low_step (v := sumV (ns.take i)) r1 r2
      rw [← sumV_step hn] at e
      have d0 := (lv_of (sumV (ns.take i))).d0
      generalize (lowV (sumV (ns.take i))).1 = T at *
      generalize (lowV (sumV (ns.take i))).2 = B at *
      generalize (ratN n).1 = n' at *
      generalize (ratN n).2 = d' at *
      repeat walk_at "rd"
      refine w_ixT e4 (v := .int d') rfl ?_
      refine w_I (cmulx (i := T) (j := d') (by omega) (by omega)) ?_
      repeat walk_at "rd"
      refine w_ixT e4 (v := .int n') rfl ?_
      repeat walk_at "rd"
      refine w_I (cmulx (i := n') (j := B) (by omega) (by omega)) ?_
      repeat walk_at "rd"
      refine w_ixT e4 (v := .int d') rfl ?_
      refine w_I (cmulx (i := B) (j := d') (by omega) (by omega)) ?_
      repeat walk_at "rd"
      have bm := bits_mul B d'
      refine u_low (Int.mul_pos d0 r2) (by omega) fun q5 H5 s5 e5 => ?_
      repeat walk_at "rd"
      refine w_gtup e5 rfl ?_
      repeat walk_at "rd"
      rw [e]
      exact ⟨p1.trans (s4.trans s5), _, _, _, rfl⟩
    rintro σ' H4 ⟨s4, u1, u2, u3, rfl⟩
    have tk : ns.take xs.length = ns := by rw [nl.len]; exact List.take_length
    rw [tk]
    have l := lv_of (sumV ns)
    have lz := (lv_abs l).2.2
    have ha := s4 _ _ ha
    have nl := nl.same s4
    have q : ∀ x H', Same H4 H' → FlAt CF H' x (sumM ns) → Q (.ref x) H' := fun x H' s' => q x H' (s4.trans s')
    repeat walk_at "rd"
    refine iN (fun c => ?_) (fun c => ?_)
    · have v0 : sumV ns ≠ 0 := fun z => c (lz.2 z)
      obtain ⟨a1, a2, a3, a4, _, _⟩ := sum_near nl.fin (by rw [← nl.len]; exact hl) v0
      have q : ∀ x H', Same H4 H' → FlAt CF H' x (nearM (sgI (lowV (sumV ns)).1) (absI (lowV (sumV ns)).1) (lowV (sumV ns)).2) → Q (.ref x) H' := fun x H' s' h' => q x H' s' (by unfold sumM; rw [if_neg v0]; exact h')
      generalize (lowV (sumV ns)).1 = T at *
      generalize (lowV (sumV ns)).2 = B at *
      repeat walk_at "rd"
      refine ⟨_, rfl, ?_⟩
      rw [es_sg]
      repeat walk_at "rd"
      rw [show (if T < 0 then -T else T) = absI T from rfl]
      repeat walk_at "rd"
      exact ⟨_, _, _, rfl, sgI_pm T, Int.le_of_lt a1, a2, by omega, by omega, fun x H' s5 n5 h5 => q x H' s5 h5⟩
    · have v0 : sumV ns = 0 := lz.1 c
      have q : ∀ x H', Same H4 H' → FlAt CF H' x (.fin (if zNeg ns = true then -1 else 1) 0 0) → Q (.ref x) H' := fun x H' s' h' => q x H' s' (by unfold sumM; rw [if_pos v0]; exact h')
      repeat walk_at "rd"
      refine w_cut (Mid := fun σ' H' => Same H4 H' ∧ ∃ u1 u2 u3 u4, σ' = [some (.ref a), u1, u2, u3, u4, some (.bl (!ns.isEmpty && ns.all negZ))]) ?_ ?_
      · repeat walk_at "rd"
        refine w_lstI (by show 0 ≤ 1000; decide) fun q5 H5 s5 n5 e5 => ?_
        repeat walk_at "rd"
        have ha := s5 _ _ ha
        have nl := nl.same s5
        refine w_neNil (SqL.of ha) e5 ?_
        have em : xs.isEmpty = ns.isEmpty := by
          have := nl.len
          cases xs <;> cases ns <;> simp_all
        rw [em]
        repeat walk_at "rd"
        refine iB (fun z => ?_) (fun z => ?_)
        · repeat walk_at "rd"
          refine w_lc ?_
          repeat walk_at "rd"
          refine w_iListI ha fun D nD => ?_
          refine lc_list (xs := xs) (fun i H' => Same H5 H' ∧ H' D = some (.lst ((ns.take i).map fun n => .bl (negZ n)))) ⟨same_upd nD, upd_same⟩ (fun i H' _ p => SqL.of (p.1 _ _ ha)) ?_ ?_
          · intro i x H' hi ⟨p1, p2⟩
            have hi5 : i < xs.length := (List.getElem?_eq_some_iff.mp hi).1
            obtain ⟨n, hn, hx, fn⟩ := nl.get i x hi
            have hx := hx.same p1
            obtain ⟨pl, fl, ⟨t, ty, i1, i2, i3, i4⟩, _, e⟩ := hx.says T.toAll
            have done : ∀ b, b = negZ n → ∃ acc, H' D = some (.lst acc) ∧ acc.length < sizeLine ∧ Same H5 (upd H' D (.lst (acc ++ [.bl b]))) ∧ (upd H' D (.lst (acc ++ [.bl b]))) D = some (.lst ((ns.take (i + 1)).map fun n => .bl (negZ n))) := fun b hb => by
              refine ⟨_, p2, ?_, same_put p1 nD, ?_⟩
              · rw [List.length_map, List.length_take]
                exact Nat.lt_of_le_of_lt (Nat.min_le_left _ _) (lt_line hi5 hl)
              · rw [upd_same, take_succ' hn, List.map_append, hb]
                rfl
            repeat walk_at "rd"
            refine ⟨rfl, ?_⟩
            refine w_yes ?_
            refine iT ?_
            repeat walk_at "rd"
            refine w_isi (.own CF) ty i4 ?_
            rw [e]
            cases n with
            | int i =>
              repeat walk_at "rd"
              exact done _ rfl
            | fl f =>
              obtain ⟨s, t, p, rfl, ok⟩ := fn.fl
              obtain ⟨b, rfl, hf, _⟩ := hx
              obtain ⟨dx, h1⟩ := id hf
              have h1 : H' b = some (.ins CF dx (flds s (.int t) p)) := h1
              repeat walk_at "rd"
              refine w_fldI h1 T.l_Float T.n_sign (flds_s _ _ _) ?_
              repeat walk_at "rd"
              exact done _ rfl
          · intro H' ⟨p1, p2⟩
            rw [tk] at p2
            repeat walk_at "rd"
            refine ⟨D, ns.map negZ, rfl, SqL.of (by rw [List.map_map]; exact p2), ?_⟩
            rw [List.all_map]
            repeat walk_at "rd"
            rw [z, Bool.true_and]
            exact ⟨s5.trans p1, _, _, _, _, rfl⟩
        · repeat walk_at "rd"
          rw [z, Bool.false_and]
          exact ⟨s5, _, _, _, _, rfl⟩
      rintro σ' H5 ⟨s5, u1, u2, u3, u4, rfl⟩
      have ha := s5 _ _ ha
      have nl := nl.same s5
      have q : ∀ x H', Same H5 H' → FlAt CF H' x (.fin (if zNeg ns = true then -1 else 1) 0 0) → Q (.ref x) H' := fun x H' s' => q x H' (s5.trans s')
      have aF : ∀ z, z = zNeg ns → Arg (if z = true then -1 else 1) (.int 0) 0 (.fin (if zNeg ns = true then -1 else 1) 0 0) := fun z hz => by
        rw [hz]
        refine .inl ⟨0, rfl, by decide, ?_, by rw [red_zero]; decide, by rw [red_zero]⟩
        cases zNeg ns
        · exact .inl rfl
        · exact .inr rfl
      repeat walk_at "rd"
      refine iB (fun z => ?_) (fun z => ?_)
      · have zz : ns.all topZ = zNeg ns := by unfold zNeg; rw [z, Bool.true_and]
        have zall : ns.all negZ = true := by
          rw [Bool.and_eq_true] at z
          exact z.2
        repeat walk_at "rd"
        refine w_lc ?_
        repeat walk_at "rd"
        refine w_iListI ha fun D nD => ?_
        refine lc_list (xs := xs) (fun i H' => Same H5 H' ∧ H' D = some (.lst ((ns.take i).map fun n => .bl (topZ n)))) ⟨same_upd nD, upd_same⟩ (fun i H' _ p => SqL.of (p.1 _ _ ha)) ?_ ?_
        · intro i x H' hi ⟨p1, p2⟩
          have hi5 : i < xs.length := (List.getElem?_eq_some_iff.mp hi).1
          obtain ⟨n, hn, hx, fn⟩ := nl.get i x hi
          have hx := hx.same p1
          have done : ∀ b, b = topZ n → ∃ acc, H' D = some (.lst acc) ∧ acc.length < sizeLine ∧ Same H5 (upd H' D (.lst (acc ++ [.bl b]))) ∧ (upd H' D (.lst (acc ++ [.bl b]))) D = some (.lst ((ns.take (i + 1)).map fun n => .bl (topZ n))) := fun b hb => by
            refine ⟨_, p2, ?_, same_put p1 nD, ?_⟩
            · rw [List.length_map, List.length_take]
              exact Nat.lt_of_le_of_lt (Nat.min_le_left _ _) (lt_line hi5 hl)
            · rw [upd_same, take_succ' hn, List.map_append, hb]
              rfl
          have nn : negZ n = true := List.all_eq_true.1 zall n (List.mem_of_getElem? hn)
          cases n with
          | int i => cases nn
          | fl f =>
            obtain ⟨s, t, p, rfl, ok⟩ := fn.fl
            obtain ⟨b, rfl, hf, _⟩ := hx
            obtain ⟨dx, h1⟩ := id hf
            have h1 : H' b = some (.ins CF dx (flds s (.int t) p)) := h1
            repeat walk_at "rd"
            refine ⟨rfl, ?_⟩
            refine w_yes ?_
            refine iT ?_
            repeat walk_at "rd"
            refine w_fldI h1 T.l_Float T.n_top (flds_t _ _ _) ?_
            repeat walk_at "rd"
            refine done _ ?_
            show decide (t = 0) = decide (L2.V.int t = .int 0)
            exact dec_ii.symm
        · intro H' ⟨p1, p2⟩
          rw [tk] at p2
          repeat walk_at "rd"
          refine ⟨D, ns.map topZ, rfl, SqL.of (by rw [List.map_map]; exact p2), ?_⟩
          rw [List.all_map]
          repeat walk_at "rd"
          refine ⟨_, rfl, ?_⟩
          repeat walk_at "rd"
          exact u_Float (aF _ zz) fun x H6 s6 n6 h6 => q x H6 (p1.trans s6) h6
      · have zz : false = zNeg ns := by unfold zNeg; rw [z, Bool.false_and]
        repeat walk_at "rd"
        refine ⟨_, rfl, ?_⟩
        repeat walk_at "rd"
        exact u_Float (aF _ zz) fun x H6 s6 n6 h6 => q x H6 s6 h6
end
end Nu

set_option Elab.async false
set_option linter.all false
set_option maxRecDepth 100000
set_option autoImplicit false
set_option maxHeartbeats 4000000
namespace Nu
open PySem PySem.Spec PyProof.Rows L2 Rd
local macro_rules | `(tactic| walk_at "hp") => `(tactic| first | assumption | (refine same_get ?sm ?_; (case sm => assumption); walk_at "hp"))
local macro_rules | `(tactic| walk_at "rd") => `(tactic| first
  | with_reducible refine w_nx ?_
  | with_reducible refine w_rt ?_
  | with_reducible refine w_bk ?_
  | with_reducible refine w_ct ?_
  | with_reducible refine w_seq ?_
  | with_reducible refine w_next ?_
  | with_reducible refine w_ret ?_
  | with_reducible refine w_ifS ?_
  | with_reducible refine w_asg ?_
  | with_reducible refine w_name ?_
  | with_reducible refine w_par ?_
  | with_reducible refine w_parI ?_
  | with_reducible refine w_ii ?_
  | with_reducible refine w_i1 ?_
  | with_reducible refine w_drop ?_
  | with_reducible refine w_sFld ?_
  | ((with_reducible refine' w_var ?rdh ?_); (case rdh => exact rfl))
  | with_reducible refine w_c ?_
  | with_reducible refine w_op ?_
  | with_reducible refine w_un ?_
  | with_reducible refine w_I0 ?_
  | with_reducible refine w_U ?_
  | with_reducible refine w_bits ?_
  | with_reducible refine w_bitsI ?_
  | with_reducible refine w_tup ?_
  | with_reducible refine w_lst ?_
  | with_reducible refine w_nil ?_
  | with_reducible refine w_cons ?_
  | with_reducible refine w_fld ?_
  | with_reducible refine w_call ?_
  | with_reducible refine w_make ?_
  | with_reducible refine w_gsub ?_
  | with_reducible refine w_int1 ?_
  | with_reducible refine w_intB ?_
  | with_reducible refine w_for ?_
  | with_reducible refine w_rng1 ?_
  | with_reducible refine w_iList ?_
  | with_reducible refine w_iTup ?_
  | with_reducible refine w_makeD ?_
  | with_reducible refine w_nn ?_
  | with_reducible refine w_subB ?_
  | with_reducible refine w_meth ?_
  | with_reducible refine w_cb ?_
  | with_reducible refine w_test ?_
  | with_reducible refine w_B ?_
  | with_reducible refine w_bl ?_
  | with_reducible refine w_andV ?_
  | with_reducible refine w_orV ?_
  | with_reducible refine w_notV ?_
  | with_reducible refine w_and ?_
  | with_reducible refine w_or ?_
  | with_reducible refine w_not ?_
  | with_reducible refine w_if ?_
  | with_reducible refine w_gnil ?_
  | with_reducible refine w_gcons ?_
  | with_reducible refine iT ?_
  | with_reducible refine iF ?_
  | with_reducible refine w_eqI ?_
  | with_reducible refine w_neI ?_
  | with_reducible refine w_eqS ?_
  | with_reducible refine w_eqIS ?_
  | with_reducible refine w_eqSI ?_)

section
variable {P : Program} {w : World} {K : PySem.W.Frag} {mg : Str → Option Value} {base : Heap} {CF : Addr}
def spFlo (CF : Addr) : Sp := fun vs H Q _ => ∃ t b, vs = [.int t, .int b] ∧ 0 < b ∧ bits t ≤ 3300 ∧ bits b ≤ 3300 ∧ (floM t b = none → ∀ H', Same H H' → Q .non H') ∧ ∀ f, floM t b = some f → ∀ x H', Same H H' → FlAt CF H' x f → Q (.ref x) H'
theorem sc_float_of : FnScope ["top", "bottom", "found", "told"] ["top", "bottom"] (defScope s_float_of) := ⟨rfl, rfl, rfl, by decide +kernel, rfl, by decide +kernel, by decide +kernel⟩
theorem ok_float_of (T : AllS K mg CF) (k_nearest : Kn P w K mg base CX0 5 "nearest" ["sign", "top", "bottom"] (spNear CF)) (k_sign_of : Kn P w K mg base CX0 1 "sign_of" ["is_negative"] spSign) (k_Float_is_finite : KnM P w K mg base CX0 1 CF "is_finite" ["self"] (spFinite CF)) (k_Float_ratio : KnM P w K mg base CX0 1 CF "ratio" ["self"] (spRatio CF)) :
    Kn P w K mg base CX0 6 "float_of" ["top", "bottom"] (spFlo CF) := by
  refine T.x_float_of.kn fun f fd F => ?_
  refine F.ok sc_float_of (fun vs H Q E h => ?_) (fun cdv A outer s H vs Q E hr h => ?_)
  · obtain ⟨t, b, rfl, _⟩ := h
    rfl
  · obtain ⟨t, b, rfl, hb, bt, bb, q1, q2⟩ := h
    refine ⟨_, (pss_cons (ps_set (i := 2) sc_float_of.nd rfl (Or.inl rfl) (pk k_nearest hr (pa_cons (pk k_sign_of hr (pa_cons (pe_cmpR op_lt (pv 0) pe_int (nomark _)) pa_nil)) (pa_cons (pe_callB call_abs (by rfl) T.b_abs boot_abs (pa_cons (pv 0) pa_nil)) (pa_cons (pv 1) pa_nil)))))
      (pss_cons (ps_if (pt_not (pt_val (pkM0 k_Float_is_finite T.l_Float hr (pv 2) rfl))) (pss_one (ps_ret pe_non)) pss_nil)
      (pss_cons (ps_set (i := 3) sc_float_of.nd rfl (Or.inl rfl) (pkM0 k_Float_ratio T.l_Float hr (pv 2) rfl))
      (pss_one (ps_ret (pe_ifExp (pt_cmpR op_eq (pe_op op_mulX (pe_ix ix_tup (pv 3) pe_int (fun _ _ => rfl)) (pv 1)) (pe_op op_mulX (pv 0) (pe_ix ix_tup (pv 3) pe_int (fun _ _ => rfl))) (nomark _)) (pv 2) pe_non)))))), ?_⟩
    have okn := nearM_ok (s := sgI t) (t := absI t) (b := b) (sgI_pm t) (absI_nn t) hb
    unfold floM at q1 q2
    repeat walk_at "rd"
    refine ⟨_, rfl, ?_⟩
    rw [es_sg]
    repeat walk_at "rd"
    rw [show (if t < 0 then -t else t) = absI t from rfl]
    repeat walk_at "rd"
    refine ⟨_, _, _, rfl, sgI_pm t, absI_nn t, hb, by rw [absI_bits]; exact bt, bb, fun x H1 s1 n1 k1 => ?_⟩
    generalize nearM (sgI t) (absI t) b = g at *
    obtain ⟨dx, h1⟩ := id k1
    repeat walk_at "rd"
    refine w_methI h1 (lk_fin _ _ _) ?_
    repeat walk_at "rd"
    refine ⟨x, _, rfl, k1, ?_⟩
    repeat walk_at "rd"
    cases g with
    | nan =>
      refine iT ?_
      repeat walk_at "rd"
      exact q1 rfl H1 s1
    | inf _ =>
      refine iT ?_
      repeat walk_at "rd"
      exact q1 rfl H1 s1
    | fin s M Q' =>
      refine iF ?_
      repeat walk_at "rd"
      refine w_methI h1 (lk_rat _ _ _) ?_
      repeat walk_at "rd"
      refine ⟨x, s, M, Q', rfl, k1, okn, fun q3 H3 s3 n3 e3 => ?_⟩
      have b1 := ratT_b okn
      have b2 := ratB_b okn
      repeat walk_at "rd"
      refine w_ixT e3 (v := .int (ratT s M Q')) rfl ?_
      repeat walk_at "rd"
      refine w_I (cmulx (i := ratT s M Q') (j := b) (by omega) (by omega)) ?_
      repeat walk_at "rd"
      refine w_ixT e3 (v := .int (ratB Q')) rfl ?_
      refine w_I (cmulx (i := t) (j := ratB Q') (by omega) (by omega)) ?_
      repeat walk_at "rd"
      refine iD (fun c => ?_) (fun c => ?_)
      · repeat walk_at "rd"
        exact q2 _ (if_pos c) x H3 (s1.trans s3) (k1.same s3)
      · repeat walk_at "rd"
        exact q1 (if_neg c) H3 (s1.trans s3)
def NDof (k : Bool) (s t p r u q : Int) : Int × Int := if k = true then (ratT s t p * ratT r u q, ratB p * ratB q) else (ratT s t p * ratB q + ratT r u q * ratB p, ratB p * ratB q)
def spSplit (CF : Addr) : Sp := fun vs H Q _ => ∃ (wa a b : Addr) (k : Bool) (W : Fl) (s t p r u q : Int), vs = [.ref wa, .ref a, .ref b, .bl k] ∧ FlAt CF H wa W ∧ W.ok ∧ FlAt CF H a (.fin s t p) ∧ (Fl.fin s t p).ok ∧ FlAt CF H b (.fin r u q) ∧ (Fl.fin r u q).ok ∧
  (W.isFin = false → ∀ H', Same H H' → Q .non H') ∧ ∀ S M P, W = .fin S M P →
    (floM ((NDof k s t p r u q).1 * ratB P - ratT S M P * (NDof k s t p r u q).2) ((NDof k s t p r u q).2 * ratB P) = none → ∀ H', Same H H' → Q .non H') ∧
    ∀ f, floM ((NDof k s t p r u q).1 * ratB P - ratT S M P * (NDof k s t p r u q).2) ((NDof k s t p r u q).2 * ratB P) = some f → ∀ o x H', Same H H' → H' o = some (.tup [.ref wa, .ref x]) → FlAt CF H' x f → Q (.ref o) H'
theorem ND_bits {k : Bool} {s t p r u q : Int} (hf : (Fl.fin s t p).ok) (hg : (Fl.fin r u q).ok) : bits (NDof k s t p r u q).1 ≤ 2150 ∧ bits (NDof k s t p r u q).2 ≤ 2150 ∧ 0 < (NDof k s t p r u q).2 := by
  have := ratT_b hf
  have := ratT_b hg
  have := ratB_b hf
  have := ratB_b hg
  have tb := top_bits hf hg
  have h2 := bits_mul (ratB p) (ratB q)
  have h3 := bits_mul (ratT s t p) (ratT r u q)
  have D0 := Int.mul_pos (ratB_pos p) (ratB_pos q)
  unfold NDof
  cases k with
  | true => exact ⟨by show bits (ratT s t p * ratT r u q) ≤ 2150; omega, by show bits (ratB p * ratB q) ≤ 2150; omega, D0⟩
  | false => exact ⟨tb, by show bits (ratB p * ratB q) ≤ 2150; omega, D0⟩
theorem sc_split_by : FnScope ["whole", "one", "other", "is_product", "first", "second", "third", "top", "bottom", "rest"] ["whole", "one", "other", "is_product"] (defScope s_split_by) := ⟨rfl, rfl, rfl, by decide +kernel, rfl, by decide +kernel, by decide +kernel⟩
theorem ok_split_by (T : AllS K mg CF) (k_Float_is_finite : KnM P w K mg base CX0 1 CF "is_finite" ["self"] (spFinite CF)) (k_Float_ratio : KnM P w K mg base CX0 1 CF "ratio" ["self"] (spRatio CF)) (k_float_of : Kn P w K mg base CX0 6 "float_of" ["top", "bottom"] (spFlo CF)) :
    Kn P w K mg base CX0 7 "split_by" ["whole", "one", "other", "is_product"] (spSplit CF) := by
  refine T.x_split_by.kn fun f fd F => ?_
  refine F.ok sc_split_by (fun vs H Q E h => ?_) (fun cdv A outer s H vs Q E hr h => ?_)
  · obtain ⟨wa, a, b, k, W, s, t, p, r, u, q, rfl, _⟩ := h
    rfl
  · obtain ⟨wa, a, b, k, W, s, t, p, r, u, q, rfl, hw, okw, hf, okf, hg, okg, q0, q1⟩ := h
    refine ⟨_, (pss_cons (ps_if (pt_not (pt_val (pkM0 k_Float_is_finite T.l_Float hr (pv 0) rfl))) (pss_one (ps_ret pe_non)) pss_nil)
      (pss_cons (ps_par3 (by rfl) sc_split_by.nd (i := 4) (j := 5) (l := 6) rfl rfl rfl (by decide) (by decide) (by decide) rfl rfl rfl (pa_cons (pkM0 k_Float_ratio T.l_Float hr (pv 1) rfl) (pa_cons (pkM0 k_Float_ratio T.l_Float hr (pv 2) rfl) (pa_cons (pkM0 k_Float_ratio T.l_Float hr (pv 0) rfl) pa_nil))) (by rfl))
      (C8.pss_cut (ps_if (pt_val (pv 3)) (pss_one (ps_par (by rfl) sc_split_by.nd (i := 7) (j := 8) rfl rfl (by decide) rfl rfl (pa_cons (pe_op op_mulX (pe_ix ix_tup (pv 4) pe_int (fun _ _ => rfl)) (pe_ix ix_tup (pv 5) pe_int (fun _ _ => rfl))) (pa_cons (pe_op op_mulX (pe_ix ix_tup (pv 4) pe_int (fun _ _ => rfl)) (pe_ix ix_tup (pv 5) pe_int (fun _ _ => rfl))) pa_nil)) (by rfl))) (pss_one (ps_par (by rfl) sc_split_by.nd (i := 7) (j := 8) rfl rfl (by decide) rfl rfl (pa_cons (pe_op op_add (pe_op op_mulX (pe_ix ix_tup (pv 4) pe_int (fun _ _ => rfl)) (pe_ix ix_tup (pv 5) pe_int (fun _ _ => rfl))) (pe_op op_mulX (pe_ix ix_tup (pv 5) pe_int (fun _ _ => rfl)) (pe_ix ix_tup (pv 4) pe_int (fun _ _ => rfl)))) (pa_cons (pe_op op_mulX (pe_ix ix_tup (pv 4) pe_int (fun _ _ => rfl)) (pe_ix ix_tup (pv 5) pe_int (fun _ _ => rfl))) pa_nil)) (by rfl))))
      (pss_cons (ps_set (i := 9) sc_split_by.nd rfl (Or.inl rfl) (pk k_float_of hr (pa_cons (pe_op op_sub (pe_op op_mulX (pv 7) (pe_ix ix_tup (pv 6) pe_int (fun _ _ => rfl))) (pe_op op_mulX (pe_ix ix_tup (pv 6) pe_int (fun _ _ => rfl)) (pv 8))) (pa_cons (pe_op op_mulX (pv 8) (pe_ix ix_tup (pv 6) pe_int (fun _ _ => rfl))) pa_nil))))
      (pss_one (ps_ret (pe_ifExp (pt_cmpR op_isN (pv 9) pe_non (nomark _)) pe_non (pe_tup (pa_cons (pv 0) (pa_cons (pv 9) pa_nil)))))))))), ?_⟩
    obtain ⟨dw, h1⟩ := id hw
    obtain ⟨da, h2⟩ := id hf
    obtain ⟨db, h3⟩ := id hg
    repeat walk_at "rd"
    refine w_methI h1 (lk_fin _ _ _) ?_
    repeat walk_at "rd"
    refine ⟨wa, _, rfl, hw, ?_⟩
    repeat walk_at "rd"
    cases W with
    | nan =>
      refine iT ?_
      repeat walk_at "rd"
      exact q0 rfl H (Same.refl _)
    | inf _ =>
      refine iT ?_
      repeat walk_at "rd"
      exact q0 rfl H (Same.refl _)
    | fin S M P' =>
      obtain ⟨qn, qs⟩ := q1 S M P' rfl
      refine iF ?_
      repeat walk_at "rd"
      refine w_par3 ?_
      repeat walk_at "rd"
      refine w_methI h2 (lk_rat _ _ _) ?_
      repeat walk_at "rd"
      refine ⟨a, s, t, p, rfl, hf, okf, fun q4 H4 s4 n4 e4 => ?_⟩
      repeat walk_at "rd"
      refine w_methI (s4 _ _ h3) (lk_rat _ _ _) ?_
      repeat walk_at "rd"
      refine ⟨b, r, u, q, rfl, hg.same s4, okg, fun q5 H5 s5 n5 e5 => ?_⟩
      have S5 := s4.trans s5
      repeat walk_at "rd"
      refine w_methI (S5 _ _ h1) (lk_rat _ _ _) ?_
      repeat walk_at "rd"
      refine ⟨wa, S, M, P', rfl, hw.same S5, okw, fun q6 H6 s6 n6 e6 => ?_⟩
      have S6 := S5.trans s6
      have e4 := s6 _ _ (s5 _ _ e4)
      have e5 := s6 _ _ e5
      repeat walk_at "rd"
      refine ⟨_, _, _, rfl, ?_⟩
      repeat walk_at "rd"
      obtain ⟨bn, bd, D0⟩ := ND_bits (k := k) okf okg
      have c1 := ratT_b okf
      have c2 := ratT_b okg
      have c3 := ratB_b okf
      have c4 := ratB_b okg
      have c5 := ratT_b okw
      have c6 := ratB_b okw
      have B0 := ratB_pos P'
      refine w_cut (Mid := fun σ' H' => H' = H6 ∧ σ' = [some (.ref wa), some (.ref a), some (.ref b), some (.bl k), some (.ref q4), some (.ref q5), some (.ref q6), some (.int (NDof k s t p r u q).1), some (.int (NDof k s t p r u q).2), none]) ?_ ?_
      · repeat walk_at "rd"
        cases k with
        | true =>
          refine iT ?_
          repeat walk_at "rd"
          refine w_ixT e4 (v := .int (ratT s t p)) rfl ?_
          repeat walk_at "rd"
          refine w_ixT e5 (v := .int (ratT r u q)) rfl ?_
          refine w_I (cmulx (i := ratT s t p) (j := ratT r u q) (by omega) (by omega)) ?_
          repeat walk_at "rd"
          refine w_ixT e4 (v := .int (ratB p)) rfl ?_
          repeat walk_at "rd"
          refine w_ixT e5 (v := .int (ratB q)) rfl ?_
          refine w_I (cmulx (i := ratB p) (j := ratB q) (by omega) (by omega)) ?_
          repeat walk_at "rd"
          exact ⟨rfl, rfl⟩
        | false =>
          refine iF ?_
          repeat walk_at "rd"
          refine w_ixT e4 (v := .int (ratT s t p)) rfl ?_
          repeat walk_at "rd"
          refine w_ixT e5 (v := .int (ratB q)) rfl ?_
          refine w_I (cmulx (i := ratT s t p) (j := ratB q) (by omega) (by omega)) ?_
          repeat walk_at "rd"
          refine w_ixT e5 (v := .int (ratT r u q)) rfl ?_
          repeat walk_at "rd"
          refine w_ixT e4 (v := .int (ratB p)) rfl ?_
          refine w_I (cmulx (i := ratT r u q) (j := ratB p) (by omega) (by omega)) ?_
          repeat walk_at "rd"
          refine w_ixT e4 (v := .int (ratB p)) rfl ?_
          repeat walk_at "rd"
          refine w_ixT e5 (v := .int (ratB q)) rfl ?_
          refine w_I (cmulx (i := ratB p) (j := ratB q) (by omega) (by omega)) ?_
          repeat walk_at "rd"
          exact ⟨rfl, rfl⟩
      rintro σ' H7 ⟨rfl, rfl⟩
      generalize (NDof k s t p r u q).1 = N at *
      generalize (NDof k s t p r u q).2 = D at *
      generalize ratT S M P' = n at *
      generalize ratB P' = d at *
      repeat walk_at "rd"
      refine w_ixT e6 (v := .int d) rfl ?_
      refine w_I (cmulx (i := N) (j := d) (by omega) (by omega)) ?_
      repeat walk_at "rd"
      refine w_ixT e6 (v := .int n) rfl ?_
      repeat walk_at "rd"
      refine w_I (cmulx (i := n) (j := D) (by omega) (by omega)) ?_
      repeat walk_at "rd"
      refine w_ixT e6 (v := .int d) rfl ?_
      refine w_I (cmulx (i := D) (j := d) (by omega) (by omega)) ?_
      repeat walk_at "rd"
      have m1 := bits_mul N d
      have m2 := bits_mul n D
      have m3 := bits_mul D d
      have m4 := bits_add (a := N * d) (b := -(n * D)) (k := 3240) (by omega) (by rw [show bits (-(n * D)) = bits (n * D) by unfold bits; simp [Builtin.Int.intBits]]; omega)
      rw [← Int.sub_eq_add_neg] at m4
      refine ⟨_, _, rfl, Int.mul_pos D0 B0, by omega, by omega, fun hn H8 s8 => ?_, fun f hs x H8 s8 k8 => ?_⟩
      · repeat walk_at "rd"
        refine iD (fun _ => ?_) (fun c => absurd rfl c)
        repeat walk_at "rd"
        exact qn hn H8 (S6.trans s8)
      · repeat walk_at "rd"
        refine iD (fun c => nomatch c) (fun _ => ?_)
        repeat walk_at "rd"
        exact w_tup2 fun o H9 s9 n9 e9 => qs f hs o x H9 (S6.trans (s8.trans s9)) e9 (k8.same s9)
/-! ### of a sum, of a product -/
def spSplitS (CF : Addr) : Sp := fun vs H Q _ => ∃ (a b : Addr) (s t p r u q : Int), vs = [.ref a, .ref b] ∧ FlAt CF H a (.fin s t p) ∧ (Fl.fin s t p).ok ∧ FlAt CF H b (.fin r u q) ∧ (Fl.fin r u q).ok ∧
  ((addM (.fin s t p) (.fin r u q)).isFin = false → ∀ H', Same H H' → Q .non H') ∧
  ∀ S M P, addM (.fin s t p) (.fin r u q) = .fin S M P → ∀ o wa x S2 M2 P2 H', Same H H' → H' o = some (.tup [.ref wa, .ref x]) → FlAt CF H' wa (.fin S M P) → FlAt CF H' x (.fin S2 M2 P2) → (Fl.fin S M P).ok → (Fl.fin S2 M2 P2).ok →
    vN (.fl (.fin S M P)) + vN (.fl (.fin S2 M2 P2)) = vN (.fl (.fin s t p)) + vN (.fl (.fin r u q)) → Q (.ref o) H'
theorem sc_split_sum : FnScope ["one", "other"] ["one", "other"] (defScope s_split_sum) := ⟨rfl, rfl, rfl, by decide +kernel, rfl, by decide +kernel, by decide +kernel⟩
theorem ok_split_sum (T : AllS K mg CF) (k_check_finite : Kn P w K mg base CX0 3 "check_finite" ["number", "part"] (spChk CF)) (k_added : Kn P w K mg base CX0 6 "added" ["one", "other"] (spAdded CF)) (k_split_by : Kn P w K mg base CX0 7 "split_by" ["whole", "one", "other", "is_product"] (spSplit CF)) :
    Kn P w K mg base CX0 8 "split_sum" ["one", "other"] (spSplitS CF) := by
  refine T.x_split_sum.kn fun f fd F => ?_
  refine F.ok sc_split_sum (fun vs H Q E h => ?_) (fun cdv A outer s H vs Q E hr h => ?_)
  · obtain ⟨a, b, s, t, p, r, u, q, rfl, _⟩ := h
    rfl
  · obtain ⟨a, b, s, t, p, r, u, q, rfl, hf, okf, hg, okg, q0, q1⟩ := h
    refine ⟨_, (pss_cons (ps_expr (pk k_check_finite hr (pa_cons (pv 0) (pa_cons pe_str pa_nil))))
      (pss_cons (ps_expr (pk k_check_finite hr (pa_cons (pv 1) (pa_cons pe_str pa_nil))))
      (pss_one (ps_ret (pk k_split_by hr (pa_cons (pk k_added hr (pa_cons (pv 0) (pa_cons (pv 1) pa_nil))) (pa_cons (pv 0) (pa_cons (pv 1) (pa_cons pe_bl pa_nil))))))))), ?_⟩
    repeat walk_at "rd"
    refine ⟨a, _, _, rfl, hf, rfl, ?_⟩
    repeat walk_at "rd"
    refine ⟨b, _, _, rfl, hg, rfl, ?_⟩
    repeat walk_at "rd"
    refine ⟨a, b, _, _, rfl, hf, hg, okf, okg, (fun z => nomatch z), (fun z => nomatch z), fun wa H1 s1 k1 => ?_⟩
    have okw := addM_ok okf okg
    repeat walk_at "rd"
    refine ⟨wa, a, b, false, _, s, t, p, r, u, q, rfl, k1, okw, hf.same s1, okf, hg.same s1, okg, fun z H' s' => q0 z H' (s1.trans s'), fun S M P' e => ?_⟩
    have fv := add_fv okf okg
    rw [e] at okw k1
    have rf := rest_fv fv okw
    have L := sum_left okf okg e
    obtain ⟨S2, M2, P2, e2, ok2, v2⟩ := flo_left rf L
    refine ⟨fun z => ?_, fun f hs o x H' s' eo kx => ?_⟩
    · exact absurd (e2.symm.trans z) (fun h => nomatch h)
    · obtain rfl := Option.some.inj (e2.symm.trans hs)
      exact q1 S M P' e o wa x S2 M2 P2 H' (s1.trans s') eo (k1.same s') kx okw ok2 (by rw [v2]; omega)
def spSplitP (CF : Addr) : Sp := fun vs H Q _ => ∃ (a b : Addr) (s t p r u q : Int), vs = [.ref a, .ref b] ∧ FlAt CF H a (.fin s t p) ∧ (Fl.fin s t p).ok ∧ FlAt CF H b (.fin r u q) ∧ (Fl.fin r u q).ok ∧
  (((mulM (.fin s t p) (.fin r u q)).isFin = false ∨ t * u * G (p + q) < G (-900)) → ∀ H', Same H H' → Q .non H') ∧
  ∀ S M P, mulM (.fin s t p) (.fin r u q) = .fin S M P → ∀ o wa x S2 M2 P2 H', Same H H' → H' o = some (.tup [.ref wa, .ref x]) → FlAt CF H' wa (.fin S M P) → FlAt CF H' x (.fin S2 M2 P2) → (Fl.fin S M P).ok → (Fl.fin S2 M2 P2).ok →
    vN (.fl (.fin S M P)) + vN (.fl (.fin S2 M2 P2)) = s * r * (t * u * G (p + q)) → Q (.ref o) H'
theorem sc_split_product : FnScope ["one", "other"] ["one", "other"] (defScope s_split_product) := ⟨rfl, rfl, rfl, by decide +kernel, rfl, by decide +kernel, by decide +kernel⟩
theorem ok_split_product (T : AllS K mg CF) (k_check_finite : Kn P w K mg base CX0 3 "check_finite" ["number", "part"] (spChk CF)) (k_multiplied : Kn P w K mg base CX0 6 "multiplied" ["one", "other"] (sp2 CF mulM)) (k_split_by : Kn P w K mg base CX0 7 "split_by" ["whole", "one", "other", "is_product"] (spSplit CF)) :
    Kn P w K mg base CX0 8 "split_product" ["one", "other"] (spSplitP CF) := by
  refine T.x_split_product.kn fun f fd F => ?_
  refine F.ok sc_split_product (fun vs H Q E h => ?_) (fun cdv A outer s H vs Q E hr h => ?_)
  · obtain ⟨a, b, s, t, p, r, u, q, rfl, _⟩ := h
    rfl
  · obtain ⟨a, b, s, t, p, r, u, q, rfl, hf, okf, hg, okg, q0, q1⟩ := h
    refine ⟨_, (pss_cons (ps_expr (pk k_check_finite hr (pa_cons (pv 0) (pa_cons pe_str pa_nil))))
      (pss_cons (ps_expr (pk k_check_finite hr (pa_cons (pv 1) (pa_cons pe_str pa_nil))))
      (pss_one (ps_ret (pk k_split_by hr (pa_cons (pk k_multiplied hr (pa_cons (pv 0) (pa_cons (pv 1) pa_nil))) (pa_cons (pv 0) (pa_cons (pv 1) (pa_cons pe_bl pa_nil))))))))), ?_⟩
    repeat walk_at "rd"
    refine ⟨a, _, _, rfl, hf, rfl, ?_⟩
    repeat walk_at "rd"
    refine ⟨b, _, _, rfl, hg, rfl, ?_⟩
    repeat walk_at "rd"
    refine ⟨a, b, _, _, rfl, hf, hg, okf, okg, (fun z => nomatch z), (fun z => nomatch z), fun wa H1 s1 k1 => ?_⟩
    have okw := mulM_ok okf okg
    repeat walk_at "rd"
    refine ⟨wa, a, b, true, _, s, t, p, r, u, q, rfl, k1, okw, hf.same s1, okf, hg.same s1, okg, fun z H' s' => q0 (.inl z) H' (s1.trans s'), fun S M P' e => ?_⟩
    have fv := mul_fv okf okg
    rw [e] at okw k1
    have rf := rest_fv fv okw
    refine ⟨fun z H' s' => ?_, fun f hs o x H' s' eo kx => ?_⟩
    · refine q0 (.inr ?_) H' (s1.trans s')
      rcases Int.lt_or_le (t * u * G (p + q)) (G (-900)) with c | c
      · exact c
      · obtain ⟨S2, M2, P2, e2, _⟩ := flo_left rf (mul_left okf okg e c)
        exact absurd (e2.symm.trans z) (fun h => nomatch h)
    · obtain ⟨S2, M2, P2, rfl, ok2, v2⟩ := flo_ok rf.d0 hs
      refine q1 S M P' e o wa x S2 M2 P2 H' (s1.trans s') eo (k1.same s') kx okw ok2 ?_
      have d0 := rf.d0
      have e3 := Int.eq_of_mul_eq_mul_right (show (NDof true s t p r u q).2 * ratB P' ≠ 0 from fun z => by rw [show (NDof true s t p r u q).2 = ratB p * ratB q from rfl] at z; omega) (v2.trans rf.e)
      omega
end
end Nu

set_option Elab.async false
set_option linter.all false
set_option maxRecDepth 100000
set_option autoImplicit false
set_option maxHeartbeats 4000000
namespace Rd
open PySem PySem.Spec PyProof.Rows L2
section
variable {σ : L2.St} {H : Hp}
def XfK (a : Addr) (cls : Value) (d : Option Addr) (C : Addr) (f : Str) (x : V) (H1 : Hp) (Q : VK) : Prop := x = .ref a ∧ cls = .ref C ∧ ∃ (dd : Addr) (fs : List (Str × V)) (v : V), d = some dd ∧ H1 dd = some (.xd fs) ∧ fs.lookup f = some v ∧ Q v H1
theorem w_xf {a : Addr} {cls : Value} {d : Option Addr} {C : Addr} {f : Str} {te : TE} {Q : VK} (h : te σ H fun x H1 => XfK a cls d C f x H1 Q) : tXf a cls d C f te σ H Q := h
theorem w_xfI {a dd C : Addr} {f : Str} {fs : List (Str × V)} {v : V} {Q : VK} (e : H dd = some (.xd fs)) (l : fs.lookup f = some v) (q : Q v H) : XfK a (.ref C) (some dd) C f (.ref a) H Q := ⟨rfl, rfl, dd, fs, v, rfl, e, l, q⟩
theorem w_bm {K : PySem.W.Frag} {T : String} {rd : V → List V → Hp → VK → Prop} {to : TE} {ta : TA} {Q : VK} (h : to σ H fun x H1 => tyV K T x H1 ∧ ta σ H1 fun vs H2 => rd x vs H2 Q) : tBM K T rd to ta σ H Q := h
theorem w_app {l : Addr} {xs : List V} {y : V} {Q : VK} (h : H l = some (.lst xs)) (hz : xs.length < sizeLine) (q : Q .non (upd H l (.lst (xs ++ [y])))) : rAppend (.ref l) [y] H Q := ⟨l, xs, y, rfl, rfl, h, hz, q⟩
end
end Rd
namespace Nu
open PySem PySem.Spec PyProof.Rows L2 Rd
local macro_rules | `(tactic| walk_at "hp") => `(tactic| first | assumption | (refine same_get ?sm ?_; (case sm => assumption); walk_at "hp"))
local macro_rules | `(tactic| walk_at "rd") => `(tactic| first
  | with_reducible refine w_nx ?_
  | with_reducible refine w_rt ?_
  | with_reducible refine w_bk ?_
  | with_reducible refine w_ct ?_
  | with_reducible refine w_seq ?_
  | with_reducible refine w_next ?_
  | with_reducible refine w_ret ?_
  | with_reducible refine w_ifS ?_
  | with_reducible refine w_asg ?_
  | with_reducible refine w_name ?_
  | with_reducible refine w_par ?_
  | with_reducible refine w_parI ?_
  | with_reducible refine w_ii ?_
  | with_reducible refine w_i1 ?_
  | with_reducible refine w_drop ?_
  | with_reducible refine w_sFld ?_
  | ((with_reducible refine' w_var ?rdh ?_); (case rdh => exact rfl))
  | with_reducible refine w_c ?_
  | with_reducible refine w_op ?_
  | with_reducible refine w_un ?_
  | with_reducible refine w_I0 ?_
  | with_reducible refine w_U ?_
  | with_reducible refine w_bits ?_
  | with_reducible refine w_bitsI ?_
  | with_reducible refine w_tup ?_
  | with_reducible refine w_lst ?_
  | with_reducible refine w_nil ?_
  | with_reducible refine w_cons ?_
  | with_reducible refine w_fld ?_
  | with_reducible refine w_call ?_
  | with_reducible refine w_make ?_
  | with_reducible refine w_gsub ?_
  | with_reducible refine w_int1 ?_
  | with_reducible refine w_intB ?_
  | with_reducible refine w_for ?_
  | with_reducible refine w_rng1 ?_
  | with_reducible refine w_iList ?_
  | with_reducible refine w_iTup ?_
  | with_reducible refine w_makeD ?_
  | with_reducible refine w_nn ?_
  | with_reducible refine w_subB ?_
  | with_reducible refine w_meth ?_
  | with_reducible refine w_cb ?_
  | with_reducible refine w_test ?_
  | with_reducible refine w_B ?_
  | with_reducible refine w_bl ?_
  | with_reducible refine w_andV ?_
  | with_reducible refine w_orV ?_
  | with_reducible refine w_notV ?_
  | with_reducible refine w_and ?_
  | with_reducible refine w_or ?_
  | with_reducible refine w_not ?_
  | with_reducible refine w_if ?_
  | with_reducible refine w_gnil ?_
  | with_reducible refine w_gcons ?_
  | with_reducible refine iT ?_
  | with_reducible refine iF ?_
  | with_reducible refine w_eqI ?_
  | with_reducible refine w_neI ?_
  | with_reducible refine w_eqS ?_
  | with_reducible refine w_eqIS ?_
  | with_reducible refine w_eqSI ?_)

abbrev s_law_low : Stmt := top 61
abbrev s_law_sum : Stmt := top 63
abbrev s_law_mixed_up : Stmt := top 64
abbrev s_law_numbers : Stmt := top 65
abbrev s_law_are_parts_right : Stmt := top 66
abbrev s_law_part : Stmt := top 67
abbrev s_law_float : Stmt := top 60
abbrev s_law_wells : Stmt := top 58
abbrev s_law : Stmt := top 68
abbrev s_InvalidArgument_init : Stmt := inClass (top 3) 0
structure AllP (K : PySem.W.Frag) (mg : Str → Option Value) (CF CE CL : Addr) : Prop extends AllS K mg CF where
  g_InvalidArgument : mg "InvalidArgument" = some (.ref CE)
  a_InvalidArgument : AexC K CE
  xf_InvalidArgument : XfC K CE
  xn_part : PySem.W.findIn K (.ref CE) "part" = some none
  e_InvalidArgument : PySem.W.exmOne K (.ref CE) (.ref CE) = some true
  g_LuaError : mg "LuaError" = some (.ref CL)
  r_LuaError : LErrC K CL
  x_law_low : Tx K mg "_law_low" "_law_low" s_law_low ["top", "bottom"]
  x_law_sum : Tx K mg "_law_sum" "_law_sum" s_law_sum ["numbers"]
  x_mixed_up : Tx K mg "_law_mixed_up" "_law_mixed_up" s_law_mixed_up ["well", "row"]
  x_numbers : Tx K mg "_law_numbers" "_law_numbers" s_law_numbers ["well"]
  x_parts : Tx K mg "_law_are_parts_right" "_law_are_parts_right" s_law_are_parts_right ["one", "other"]
  x_part : Tx K mg "_law_part" "_law_part" s_law_part ["thing"]
  x_float : Tx K mg "_law_float" "_law_float" s_law_float ["well"]
  x_wells : Tx K mg "_law_wells" "_law_wells" s_law_wells ["script", "many"]
  x_law : Tx K mg "law" "law" s_law ["script"]
/-- the way out by an error that tells a part -/
def ErrI (CE : Addr) (part : Str) (H : Hp) (E : XK) : Prop := ∀ d H', Same H H' → H' d = some (.xd (parFs (.str part))) → E (.ref CE) (some d) H'
theorem ErrI.same {CE : Addr} {m : Str} {H H1 : Hp} {E : XK} (h : ErrI CE m H E) (s : Same H H1) : ErrI CE m H1 E := fun d H' s1 e => h d H' (s.trans s1) e
section
variable {P : Program} {w : World} {K : PySem.W.Frag} {mg : Str → Option Value} {base : Heap} {CF CE CL : Addr}
/-- no list of numbers -/
inductive BadS (CF : Addr) (H : Hp) : L2.V → Prop
  | non : BadS CF H .non
  | int (i : Int) : BadS CF H (.int i)
  | tup {a : Addr} {xs : List L2.V} (h : H a = some (.tup xs)) : BadS CF H (.ref a)
  | nn {a : Addr} {y : L2.V} (h : H a = some (.lst [y])) (hy : (∃ b, y = .bl b) ∨ ∃ z, y = .str z) : BadS CF H (.ref a)
  | fl {a b : Addr} {f : Fl} (h : H a = some (.lst [.ref b])) (hf : FlAt CF H b f) (hn : f.isFin = false) : BadS CF H (.ref a)
theorem BadS.same {H H' : Hp} {x : L2.V} (h : BadS CF H x) (s : Same H H') : BadS CF H' x := by
  cases h with
  | non => exact .non
  | int i => exact .int i
  | tup h => exact .tup (s _ _ h)
  | nn h hy => exact .nn (s _ _ h) hy
  | fl h hf hn => exact .fl (s _ _ h) (hf.same s) hn
def spSumX (CF CE : Addr) : Sp := fun vs H Q E => ∃ x, vs = [x] ∧ BadS CF H x ∧ ErrI CE "numbers" H E
theorem ok_exact_sumX (T : AllP K mg CF CE CL) (k_InvalidArgument : KnIA P w K mg base CE) (k_is_number : Kn P w K mg base CX0 2 "is_number" ["thing"] (spNum K CF)) (k_Float_is_finite : KnM P w K mg base CX0 1 CF "is_finite" ["self"] (spFinite CF)) :
    Kn P w K mg base (L2.CX P w) 6 "exact_sum" ["numbers"] (spSumX CF CE) := by
  refine T.x_exact_sum.kn fun f fd F => ?_
  refine F.okX sc_exact_sum (fun vs H Q E h => ?_) (fun cdv A outer s H vs Q E hr h => ?_)
  · obtain ⟨x, rfl, _⟩ := h
    rfl
  · obtain ⟨x, rfl, hx, q⟩ := h
    refine ⟨_, (pss_cons (ps_if (PW.pt (pw_or (pt_not (pt_val (pe_callB call_isi (by rfl) T.b_isinstance boot_isinstance (pa_cons (pv 0) (pa_cons (pe_bltn (by rfl) T.b_list boot_list (rty _)) pa_nil))))) (pw_or1 (pt_not (pt_val (pe_callB (cr_all rfl) (by rfl) T.b_all boot_all (pa_cons (pe_lc (own := [("number", 1)]) (g := (gName 1)) (tt := tYes) rfl sc_exact_sum.nd (pi_list (pv 0)) (blkOk_by (N := ["numbers", "number", "top", "bottom", "more", "are_below"]) (sc := defScope s_exact_sum) (by decide +kernel)) (fun _ _ _ _ _ => (pg_name (i := 1) sc_exact_sum.nd rfl (Or.inl rfl))) (fun _ _ _ _ _ => pts_nil) (fun _ _ _ _ _ => (pk k_is_number hr (pa_cons (pv 1) pa_nil)))) pa_nil))))))) (pss_one (ps_inv rfl k_InvalidArgument hr (takes_of rfl rfl rfl rfl) (pa_cons pe_str pa_nil))) pss_nil)
      (pss_cons (ps_if (pt_val (pe_callB (cr_any rfl) (by rfl) T.b_any boot_any (pa_cons (pe_lc (own := [("number", 1)]) (g := (gName 1)) (tt := tYes) rfl sc_exact_sum.nd (pi_list (pv 0)) (blkOk_by (N := ["numbers", "number", "top", "bottom", "more", "are_below"]) (sc := defScope s_exact_sum) (by decide +kernel)) (fun _ _ _ _ _ => (pg_name (i := 1) sc_exact_sum.nd rfl (Or.inl rfl))) (fun _ _ _ _ _ => pts_nil) (fun _ _ _ _ _ => (pe_and (pe_callB (r := rIsi K) call_isi (by rfl) T.b_isinstance boot_isinstance (pa_cons (pv 1) (pa_cons (pg "Float" T.g_Float (rref _)) pa_nil))) (pe_one (pe_not (pkM0 k_Float_is_finite T.l_Float hr (pv 1) rfl)))))) pa_nil))) (pss_one (ps_inv rfl k_InvalidArgument hr (takes_of rfl rfl rfl rfl) (pa_cons pe_str pa_nil))) pss_nil)
      (pss_cons ps_never
      (pss_cons ps_never
      (pss_cons ps_never
      (pss_cons ps_never
      (pss_one ps_never))))))), ?_⟩
    repeat walk_at "rd"
    have fin : ∀ H1, Same H H1 → MkOK CE (spInv CE) [] [.str "numbers"] H1 fun cls d H' => E cls d H' := fun H1 s1 => w_invI fun d H' s2 n1 e1 => q d H' (s1.trans s2) e1
    cases hx with
    | non =>
      refine w_isi (.ty "list") (.base .non) (b := false) (kit_ty (by decide +kernel)) ?_
      repeat walk_at "rd"
      refine iT ?_
      repeat walk_at "rd"
      refine w_inv ?_
      repeat walk_at "rd"
      exact fin H (Same.refl _)
    | int i =>
      refine w_isi (.ty "list") (.base (.int i)) (b := false) (kit_ty (by decide +kernel)) ?_
      repeat walk_at "rd"
      refine iT ?_
      repeat walk_at "rd"
      refine w_inv ?_
      repeat walk_at "rd"
      exact fin H (Same.refl _)
    | tup h =>
      refine w_isi (.ty "list") (.base (.tup h)) (b := false) (kit_ty (by decide +kernel)) ?_
      repeat walk_at "rd"
      refine iT ?_
      repeat walk_at "rd"
      refine w_inv ?_
      repeat walk_at "rd"
      exact fin H (Same.refl _)
    | @nn a y ha hy =>
      refine w_isi (.ty "list") (.base (.lst ha)) (b := true) (kit_ty (by decide +kernel)) ?_
      repeat walk_at "rd"
      refine iF ?_
      repeat walk_at "rd"
      refine w_lc ?_
      repeat walk_at "rd"
      refine w_iListI ha fun D nD => ?_
      refine lc_list (xs := [y]) (fun i H' => Same H H' ∧ H' D = some (.lst (List.replicate i (.bl false)))) ⟨same_upd nD, upd_same⟩ (fun i H' _ p => SqL.of (p.1 _ _ ha)) ?_ ?_
      · intro i x H' hi ⟨p1, p2⟩
        have hi5 : i < 1 := (List.getElem?_eq_some_iff.mp hi).1
        have i0 : i = 0 := by omega
        subst i0
        cases hi
        have done : ∃ acc, H' D = some (.lst acc) ∧ acc.length < sizeLine ∧ Same H (upd H' D (.lst (acc ++ [.bl false]))) ∧ (upd H' D (.lst (acc ++ [.bl false]))) D = some (.lst (List.replicate (0 + 1) (.bl false))) := ⟨_, p2, by decide, same_put p1 nD, upd_same⟩
        repeat walk_at "rd"
        refine ⟨rfl, ?_⟩
        refine w_yes ?_
        refine iT ?_
        repeat walk_at "rd"
        rcases hy with ⟨b, rfl⟩ | ⟨z, rfl⟩
        · exact ⟨_, _, _, _, _, rfl, says_bl T.toAll, by rw [show (false || ((false || true) && !true)) = false from rfl]; exact done⟩
        · exact ⟨_, _, _, _, _, rfl, says_str T.toAll, done⟩
      intro H1 ⟨s1, e1⟩
      repeat walk_at "rd"
      refine w_lenT2 (bs := [false]) e1 ?_
      repeat walk_at "rd"
      refine iT ?_
      repeat walk_at "rd"
      refine w_inv ?_
      repeat walk_at "rd"
      exact fin H1 s1
    | @fl a b f ha hf hn =>
      refine w_isi (.ty "list") (.base (.lst ha)) (b := true) (kit_ty (by decide +kernel)) ?_
      repeat walk_at "rd"
      refine iF ?_
      repeat walk_at "rd"
      refine w_lc ?_
      repeat walk_at "rd"
      refine w_iListI ha fun D nD => ?_
      refine lc_list (xs := [.ref b]) (fun i H' => Same H H' ∧ H' D = some (.lst (List.replicate i (.bl true)))) ⟨same_upd nD, upd_same⟩ (fun i H' _ p => SqL.of (p.1 _ _ ha)) ?_ ?_
      · intro i x H' hi ⟨p1, p2⟩
        have hi5 : i < 1 := (List.getElem?_eq_some_iff.mp hi).1
        have i0 : i = 0 := by omega
        subst i0
        cases hi
        obtain ⟨dx, h1⟩ := hf.same p1
        repeat walk_at "rd"
        refine ⟨rfl, ?_⟩
        refine w_yes ?_
        refine iT ?_
        repeat walk_at "rd"
        exact ⟨_, _, _, _, _, rfl, says_fl T.toAll h1, _, p2, by decide, same_put p1 nD, upd_same⟩
      intro H1 ⟨s1, e1⟩
      repeat walk_at "rd"
      refine w_lenT2 (bs := [true]) e1 ?_
      repeat walk_at "rd"
      refine iF ?_
      repeat walk_at "rd"
      refine w_lc ?_
      repeat walk_at "rd"
      have ha := s1 _ _ ha
      have hf := hf.same s1
      clear e1 nD
      refine w_iListI ha fun D nD => ?_
      refine lc_list (xs := [.ref b]) (fun i H' => Same H1 H' ∧ H' D = some (.lst (List.replicate i (.bl true)))) ⟨same_upd nD, upd_same⟩ (fun i H' _ p => SqL.of (p.1 _ _ ha)) ?_ ?_
      · intro i x H' hi ⟨p1, p2⟩
        have hi5 : i < 1 := (List.getElem?_eq_some_iff.mp hi).1
        have i0 : i = 0 := by omega
        subst i0
        cases hi
        have hf := hf.same p1
        obtain ⟨dx, h1⟩ := id hf
        obtain ⟨t, ty, i1, i2, i3, i4⟩ := says_fl T.toAll h1
        repeat walk_at "rd"
        refine ⟨rfl, ?_⟩
        refine w_yes ?_
        refine iT ?_
        repeat walk_at "rd"
        refine w_isi (.own CF) ty i4 ?_
        repeat walk_at "rd"
        refine w_methI h1 (lk_fin _ _ _) ?_
        repeat walk_at "rd"
        refine ⟨b, _, rfl, hf, ?_⟩
        rw [hn]
        repeat walk_at "rd"
        exact ⟨_, p2, by decide, same_put p1 nD, upd_same⟩
      intro H2 ⟨s2, e2⟩
      repeat walk_at "rd"
      refine ⟨D, [true], rfl, SqL.of e2, ?_⟩
      repeat walk_at "rd"
      refine iT ?_
      repeat walk_at "rd"
      refine w_inv ?_
      repeat walk_at "rd"
      exact fin H2 (s1.trans s2)
def spPart (CF : Addr) : Sp := fun vs H Q _ => ∃ x : L2.V, vs = [x] ∧ BadS CF H x ∧ ∀ H', Same H H' → Q (.str "numbers") H'
theorem sc_law_part : FnScope ["thing", "found", "error"] ["thing"] (defScope s_law_part) := ⟨rfl, rfl, rfl, by decide +kernel, rfl, by decide +kernel, by decide +kernel⟩
theorem ok_part (T : AllP K mg CF CE CL) (k_exact_sum : Kn P w K mg base (L2.CX P w) 6 "exact_sum" ["numbers"] (spSumX CF CE)) : Kn P w K mg base CX0 7 "_law_part" ["thing"] (spPart CF) := by
  refine T.x_part.kn fun f fd F => ?_
  refine F.ok sc_law_part (fun vs H Q E h => ?_) (fun cdv A outer s H vs Q E hr h => ?_)
  · obtain ⟨x, rfl, _⟩ := h
    rfl
  · obtain ⟨x, rfl, hx, q⟩ := h
    refine ⟨_, (pss_cons (ps_set (i := 1) sc_law_part.nd rfl (Or.inl rfl) pe_non)
      (pss_cons (ps_try_as (i := 2) rfl rfl sc_law_part.nd rfl rfl ⟨rfl, by decide, Or.inl T.g_InvalidArgument⟩ takes0 (fun W pn xe tk _ => (pss_one (ps_expr (pkX k_exact_sum hr tk (pa_cons (pv 0) pa_nil))))) (fun a oe cls d pn hz hf => (pss_one (ps_set (i := 1) sc_law_part.nd rfl (Or.inl rfl) (pe_xf T.xf_InvalidArgument T.xn_part hz hf (pv 2))))))
      (pss_one (ps_ret (pv 1))))), ?_⟩
    repeat walk_at "rd"
    refine w_callS ?_
    repeat walk_at "rd"
    refine ⟨x, rfl, hx, fun d H1 s1 e1 => ⟨true, T.e_InvalidArgument, fun _ a0 ha0 => ?_, fun z => nomatch z⟩⟩
    repeat walk_at "rd"
    refine w_xf ?_
    repeat walk_at "rd"
    refine w_xfI e1 (par_part _) ?_
    repeat walk_at "rd"
    exact q H1 s1
end
end Nu

set_option Elab.async false
set_option linter.all false
set_option maxRecDepth 100000
set_option autoImplicit false
set_option maxHeartbeats 4000000
namespace Nu
open PySem PySem.Spec PyProof.Rows L2 Rd
local macro_rules | `(tactic| walk_at "hp") => `(tactic| first | assumption | (refine same_get ?sm ?_; (case sm => assumption); walk_at "hp"))
local macro_rules | `(tactic| walk_at "rd") => `(tactic| first
  | with_reducible refine w_nx ?_
  | with_reducible refine w_rt ?_
  | with_reducible refine w_bk ?_
  | with_reducible refine w_ct ?_
  | with_reducible refine w_seq ?_
  | with_reducible refine w_next ?_
  | with_reducible refine w_ret ?_
  | with_reducible refine w_ifS ?_
  | with_reducible refine w_asg ?_
  | with_reducible refine w_name ?_
  | with_reducible refine w_par ?_
  | with_reducible refine w_parI ?_
  | with_reducible refine w_ii ?_
  | with_reducible refine w_i1 ?_
  | with_reducible refine w_drop ?_
  | with_reducible refine w_sFld ?_
  | ((with_reducible refine' w_var ?rdh ?_); (case rdh => exact rfl))
  | with_reducible refine w_c ?_
  | with_reducible refine w_op ?_
  | with_reducible refine w_un ?_
  | with_reducible refine w_I0 ?_
  | with_reducible refine w_U ?_
  | with_reducible refine w_bits ?_
  | with_reducible refine w_bitsI ?_
  | with_reducible refine w_tup ?_
  | with_reducible refine w_lst ?_
  | with_reducible refine w_nil ?_
  | with_reducible refine w_cons ?_
  | with_reducible refine w_fld ?_
  | with_reducible refine w_call ?_
  | with_reducible refine w_make ?_
  | with_reducible refine w_gsub ?_
  | with_reducible refine w_int1 ?_
  | with_reducible refine w_intB ?_
  | with_reducible refine w_for ?_
  | with_reducible refine w_rng1 ?_
  | with_reducible refine w_iList ?_
  | with_reducible refine w_iTup ?_
  | with_reducible refine w_makeD ?_
  | with_reducible refine w_nn ?_
  | with_reducible refine w_subB ?_
  | with_reducible refine w_meth ?_
  | with_reducible refine w_cb ?_
  | with_reducible refine w_test ?_
  | with_reducible refine w_B ?_
  | with_reducible refine w_bl ?_
  | with_reducible refine w_andV ?_
  | with_reducible refine w_orV ?_
  | with_reducible refine w_notV ?_
  | with_reducible refine w_and ?_
  | with_reducible refine w_or ?_
  | with_reducible refine w_not ?_
  | with_reducible refine w_if ?_
  | with_reducible refine w_gnil ?_
  | with_reducible refine w_gcons ?_
  | with_reducible refine iT ?_
  | with_reducible refine iF ?_
  | with_reducible refine w_eqI ?_
  | with_reducible refine w_neI ?_
  | with_reducible refine w_eqS ?_
  | with_reducible refine w_eqIS ?_
  | with_reducible refine w_eqSI ?_)

theorem ariM_add {s t p r u q : Int} : ariM "add" (.fin s t p) (.fin r u q) = addM (.fin s t p) (.fin r u q) := by
  unfold ariM
  rw [if_neg (show ¬ (isNan (.fin s t p) || isNan (.fin r u q)) = true from Bool.false_ne_true), if_pos rfl]
theorem ariM_mul {s t p r u q : Int} : ariM "mul" (.fin s t p) (.fin r u q) = mulM (.fin s t p) (.fin r u q) := by
  unfold ariM
  rw [if_neg (show ¬ (isNan (.fin s t p) || isNan (.fin r u q)) = true from Bool.false_ne_true), if_neg (by decide +kernel), if_neg (by decide +kernel), if_pos rfl]
theorem w_listT {K : PySem.W.Frag} {p : Addr} {ys : List L2.V} {H : Hp} {Q : VK} (h : H p = some (.tup ys)) (q : ∀ l H', Same H H' → H l = none → H' l = some (.lst ys) → Q (.ref l) H') : ∃ p' ys', [L2.V.ref p] = [L2.V.ref p'] ∧ (SqL K H p' ys' ∨ SqT K H p' ys') ∧ ∀ l, H l = none → Q (.ref l) (upd H l (.lst ys')) :=
  ⟨p, ys, rfl, .inr (SqT.of h), fun l hl => q l _ (same_upd hl) hl upd_same⟩
theorem nl1 {CF : Addr} {H : Hp} {x : L2.V} {n : Nm} (h : NmAt CF H x n) (f : FinN n) : NL CF H [x] [n] := ⟨rfl, fun i y e => by
  cases i with
  | zero => cases e; exact ⟨n, rfl, h, f⟩
  | succ i => cases e⟩
theorem nl2 {CF : Addr} {H : Hp} {x x' : L2.V} {n n' : Nm} (h : NmAt CF H x n) (f : FinN n) (h' : NmAt CF H x' n') (f' : FinN n') : NL CF H [x, x'] [n, n'] := ⟨rfl, fun i y e => by
  match i, e with
  | 0, e => cases e; exact ⟨n, rfl, h, f⟩
  | 1, e => cases e; exact ⟨n', rfl, h', f'⟩
  | i + 2, e => cases e⟩
theorem nm_f {CF : Addr} {H : Hp} {a : Addr} {s t p : Int} (h : FlAt CF H a (.fin s t p)) (ok : (Fl.fin s t p).ok) : NmAt CF H (.ref a) (.fl (.fin s t p)) := ⟨a, rfl, h, ok⟩
section
variable {P : Program} {w : World} {K : PySem.W.Frag} {mg : Str → Option Value} {base : Heap} {CF CE CL : Addr}
theorem sc_law_low : FnScope ["top", "bottom", "one", "other"] ["top", "bottom"] (defScope s_law_low) := ⟨rfl, rfl, rfl, by decide +kernel, rfl, by decide +kernel, by decide +kernel⟩
theorem ok_law_low (T : AllP K mg CF CE CL) : Kn P w K mg base CX0 1 "_law_low" ["top", "bottom"] spLow := by
  refine T.x_law_low.kn fun f fd F => ?_
  refine F.ok sc_law_low (fun vs H Q E h => ?_) (fun cdv A outer s H vs Q E hr h => ?_)
  · obtain ⟨t, b, rfl, _⟩ := h
    rfl
  · obtain ⟨t, b, rfl, hb, bb, q⟩ := h
    refine ⟨_, (pss_cons (ps_par (by rfl) sc_law_low.nd (i := 2) (j := 3) rfl rfl (by decide) rfl rfl (pa_cons (pe_callB call_abs (by rfl) T.b_abs boot_abs (pa_cons (pv 0) pa_nil)) (pa_cons (pv 1) pa_nil)) (by rfl))
      (pss_cons (ps_while PassesOwn.never (pt_cmpR op_gt (pv 3) pe_int (nomark _))
      (pss_one (ps_par (by rfl) sc_law_low.nd (i := 2) (j := 3) rfl rfl (by decide) rfl rfl (pa_cons (pv 3) (pa_cons (pe_op op_mod (pe_callTy call_int1 (by rfl) T.b_int boot_int (pa_cons (pv 2) pa_nil)) (pv 3)) pa_nil)) (by rfl))))
      (pss_one (ps_ret (pe_tup (pa_cons (pe_op op_fdivW (pv 0) (pv 2)) (pa_cons (pe_op op_fdivW (pv 1) (pv 2)) pa_nil))))))), ?_⟩
    have ea : (if t < 0 then -t else t) = absI t := rfl
    repeat walk_at "rd"
    rw [ea]
    repeat walk_at "rd"
    refine w_while (fun m σ' H' => H' = H ∧ ∃ one other, σ' = [some (.int t), some (.int b), some (.int one), some (.int other)] ∧ Eu t b one other ∧ m = other.toNat) ⟨rfl, absI t, b, rfl, Eu.init t hb, rfl⟩ ?_
    rintro m σ' H' ⟨rfl, one, other, rfl, eu, rfl⟩
    repeat walk_at "rd"
    refine iD (fun c => ?_) (fun c => ?_)
    · refine w_turn ?_
      repeat walk_at "rd"
      refine w_I (C := fun _ j => 0 < j) (i := one) (j := other) c ?_
      repeat walk_at "rd"
      have := Int.emod_lt_of_pos one c
      have := Int.emod_nonneg one (b := other) (by omega)
      exact ⟨(one % other).toNat, by omega, rfl, other, one % other, rfl, eu.step c, rfl⟩
    · have h0 : other = 0 := by have := eu.o1; omega
      subst h0
      have e1 := eu.fin
      subst e1
      have gp := gg_pos (t := t) hb
      have gb := b8000 (Int.le_of_lt gp) (gg_le (t := t) hb) bb
      repeat walk_at "rd"
      refine w_I (cdivw (i := t) (j := gg t b) gp gb) ?_
      repeat walk_at "rd"
      refine w_I (cdivw (i := b) (j := gg t b) gp gb) ?_
      repeat walk_at "rd"
      exact w_tup2 fun a1 H1 s1 n1 e1 => q a1 H1 s1 e1
def spLSum (CF : Addr) : Sp := fun vs H Q _ => ∃ a xs ns, vs = [.ref a] ∧ H a = some (.lst xs) ∧ NL CF H xs ns ∧ xs.length ≤ 1000 ∧ ∀ q H', Same H H' → H' q = some (.tup [.int (lowV (sumV ns)).1, .int (lowV (sumV ns)).2]) → Q (.ref q) H'
theorem sc_law_sum : FnScope ["numbers", "found", "number", "more"] ["numbers"] (defScope s_law_sum) := ⟨rfl, rfl, rfl, by decide +kernel, rfl, by decide +kernel, by decide +kernel⟩
theorem ok_law_sum (T : AllP K mg CF CE CL) (k_Float_ratio : KnM P w K mg base CX0 1 CF "ratio" ["self"] (spRatio CF)) (k_law_low : Kn P w K mg base CX0 1 "_law_low" ["top", "bottom"] spLow) : Kn P w K mg base CX0 2 "_law_sum" ["numbers"] (spLSum CF) := by
  refine T.x_law_sum.kn fun f fd F => ?_
  refine F.ok sc_law_sum (fun vs H Q E h => ?_) (fun cdv A outer s H vs Q E hr h => ?_)
  · obtain ⟨a, xs, ns, rfl, _⟩ := h
    rfl
  · obtain ⟨a, xs, ns, rfl, ha, nl, hl, q⟩ := h
    refine ⟨_, (pss_cons (ps_set (i := 1) sc_law_sum.nd rfl (Or.inl rfl) (pe_tup (pa_cons pe_int (pa_cons pe_int pa_nil))))
      (pss_cons (ps_for PassesOwn.never rfl (pi_list (pv 0)) (pg_name (i := 2) sc_law_sum.nd rfl (Or.inl rfl))
      (C8.pss_cut (ps_set (i := 3) sc_law_sum.nd rfl (Or.inl rfl) (pe_ifExp (pt_val (pe_callB call_isi (by rfl) T.b_isinstance boot_isinstance (pa_cons (pv 2) (pa_cons (pg "Float" T.g_Float (rref _)) pa_nil)))) (pkM0 k_Float_ratio T.l_Float hr (pv 2) rfl) (pe_tup (pa_cons (pv 2) (pa_cons pe_int pa_nil)))))
      (pss_one (ps_set (i := 1) sc_law_sum.nd rfl (Or.inl rfl) (pk k_law_low hr (pa_cons (pe_op op_add (pe_op op_mulX (pe_ix ix_tup (pv 1) pe_int (fun _ _ => rfl)) (pe_ix ix_tup (pv 3) pe_int (fun _ _ => rfl))) (pe_op op_mulX (pe_ix ix_tup (pv 3) pe_int (fun _ _ => rfl)) (pe_ix ix_tup (pv 1) pe_int (fun _ _ => rfl)))) (pa_cons (pe_op op_mulX (pe_ix ix_tup (pv 1) pe_int (fun _ _ => rfl)) (pe_ix ix_tup (pv 3) pe_int (fun _ _ => rfl))) pa_nil)))))))
      (pss_one (ps_ret (pv 1))))), ?_⟩
    repeat walk_at "rd"
    refine w_tup2 fun q3 H3 s3 n3 e3 => ?_
    have ha := s3 _ _ ha
    have nl := nl.same s3
    have q : ∀ q H', Same H3 H' → H' q = some (.tup [.int (lowV (sumV ns)).1, .int (lowV (sumV ns)).2]) → Q (.ref q) H' := fun x H' s' => q x H' (s3.trans s')
    repeat walk_at "rd"
    refine w_iListI ha ?_
    refine for_list (xs := xs) (fun i σ' H' => Same H3 H' ∧ ∃ o u1 u2, σ' = [some (.ref a), some (.ref o), u1, u2] ∧ H' o = some (.tup [.int (lowV (sumV (ns.take i))).1, .int (lowV (sumV (ns.take i))).2])) ⟨Same.refl _, q3, _, _, rfl, by rw [List.take_zero, show sumV [] = 0 from rfl, lowV0]; exact e3⟩ (fun i σ H' _ p => SqL.of (p.1 _ _ ha)) ?_ ?_
    · rintro i x σ' H' hi ⟨p1, o, u1, u2, rfl, eo⟩
      obtain ⟨n, hn, hx, fn⟩ := nl.get i x hi
      have hx := hx.same p1
      have hil : i < xs.length := (List.getElem?_eq_some_iff.mp hi).1
      obtain ⟨r1, r2, r3, r4⟩ := rat_v fn
      have sb := sumB_l (ns := ns.take i) (fun m hm => nl.fin m (List.mem_of_mem_take hm))
      obtain ⟨b1, b2⟩ := lv_bits sb (by rw [List.length_take]; omega)
      have e := low_step (v := sumV (ns.take i)) r1 r2
      rw [← sumV_step hn] at e
      have d0 := (lv_of (sumV (ns.take i))).d0
      obtain ⟨pl, fl, ⟨t, ty, i1, i2, i3, i4⟩, _, ef⟩ := hx.says T.toAll
      repeat walk_at "rd"
      refine w_cut (Mid := fun σ'' H'' => Same H' H'' ∧ ∃ m, σ'' = [some (.ref a), some (.ref o), some x, some (.ref m)] ∧ H'' m = some (.tup [.int (ratN n).1, .int (ratN n).2])) ?_ ?_
      · repeat walk_at "rd"
        refine w_isi (.own CF) ty i4 ?_
        rw [ef]
        cases n with
        | int i =>
          obtain ⟨rfl, _⟩ := hx
          repeat walk_at "rd"
          exact w_tup2 fun a1 H1 s1 n1 e1 => ⟨s1, a1, rfl, e1⟩
        | fl f =>
          obtain ⟨s, t, p, rfl, ok⟩ := fn.fl
          obtain ⟨b, rfl, hf, _⟩ := hx
          obtain ⟨dx, h1⟩ := id hf
          repeat walk_at "rd"
          refine w_methI h1 (lk_rat _ _ _) ?_
          repeat walk_at "rd"
          exact ⟨b, s, t, p, rfl, hf, ok, fun q2 H2 s2 n2 e2 => ⟨s2, q2, rfl, e2⟩⟩
      rintro σ'' H'' ⟨s4, m, rfl, e4⟩
      have eo := s4 _ _ eo
      generalize (lowV (sumV (ns.take i))).1 = T at *
      generalize (lowV (sumV (ns.take i))).2 = B at *
      generalize (ratN n).1 = n' at *
      generalize (ratN n).2 = d' at *
      repeat walk_at "rd"
      refine w_ixT eo (v := .int T) rfl ?_
      repeat walk_at "rd"
      refine w_ixT e4 (v := .int d') rfl ?_
      refine w_I (cmulx (i := T) (j := d') (by omega) (by omega)) ?_
      repeat walk_at "rd"
      refine w_ixT e4 (v := .int n') rfl ?_
      repeat walk_at "rd"
      refine w_ixT eo (v := .int B) rfl ?_
      refine w_I (cmulx (i := n') (j := B) (by omega) (by omega)) ?_
      repeat walk_at "rd"
      refine w_ixT eo (v := .int B) rfl ?_
      repeat walk_at "rd"
      refine w_ixT e4 (v := .int d') rfl ?_
      refine w_I (cmulx (i := B) (j := d') (by omega) (by omega)) ?_
      repeat walk_at "rd"
      have bm := bits_mul B d'
      refine u_low (Int.mul_pos d0 r2) (by omega) fun q5 H5 s5 e5 => ?_
      repeat walk_at "rd"
      rw [e] at e5
      exact ⟨p1.trans (s4.trans s5), q5, _, _, rfl, e5⟩
    · rintro σ' H4 ⟨s4, o, u1, u2, rfl, eo⟩
      have tk : ns.take xs.length = ns := by rw [nl.len]; exact List.take_length
      rw [tk] at eo
      repeat walk_at "rd"
      exact q o H4 s4 eo
/-! ### the parts of a sum and of a product -/
def TS (CF : Addr) (v : Int) (W : Fl) (okN : Prop) (u : L2.V) (H : Hp) : Prop := (u = .non ∧ okN) ∨ ∃ o wa x S M P S2 M2 P2, u = .ref o ∧ H o = some (.tup [.ref wa, .ref x]) ∧ W = .fin S M P ∧ FlAt CF H wa (.fin S M P) ∧ FlAt CF H x (.fin S2 M2 P2) ∧ (Fl.fin S M P).ok ∧ (Fl.fin S2 M2 P2).ok ∧ vN (.fl (.fin S M P)) + vN (.fl (.fin S2 M2 P2)) = v
theorem TS.same {CF : Addr} {v : Int} {W : Fl} {okN : Prop} {u : L2.V} {H H' : Hp} (h : TS CF v W okN u H) (s : Same H H') : TS CF v W okN u H' := by
  rcases h with h | ⟨o, wa, x, S, M, P, S2, M2, P2, hu, ho, hW, h1, h2, r⟩
  · exact .inl h
  · exact .inr ⟨o, wa, x, S, M, P, S2, M2, P2, hu, s _ _ ho, hW, h1.same s, h2.same s, r⟩
def NoFin (f : Fl) : Prop := f.isFin = false
def spParts (CF : Addr) : Sp := fun vs H Q _ => ∃ (a b : Addr) (s t p r u q : Int), vs = [.ref a, .ref b] ∧ FlAt CF H a (.fin s t p) ∧ (Fl.fin s t p).ok ∧ FlAt CF H b (.fin r u q) ∧ (Fl.fin r u q).ok ∧ ∀ H', Same H H' → Q (.bl true) H'
theorem sc_law_are_parts_right : FnScope ["one", "other", "first", "second", "whole", "told", "product", "exact"] ["one", "other"] (defScope s_law_are_parts_right) := ⟨rfl, rfl, rfl, by decide +kernel, rfl, by decide +kernel, by decide +kernel⟩
theorem ok_parts (T : AllP K mg CF CE CL) (k_Float_ratio : KnM P w K mg base CX0 1 CF "ratio" ["self"] (spRatio CF)) (k_arith : Kn P w K mg base CX0 8 "arith" ["word", "one", "other"] (spAri CF)) (k_split_sum : Kn P w K mg base CX0 8 "split_sum" ["one", "other"] (spSplitS CF)) (k_split_product : Kn P w K mg base CX0 8 "split_product" ["one", "other"] (spSplitP CF))
    (k_Float_is_finite : KnM P w K mg base CX0 1 CF "is_finite" ["self"] (spFinite CF)) (k_Float_eq : KnM P w K mg base CX0 1 CF "__eq__" ["self", "other"] (spFEq CF)) (k_law_sum : Kn P w K mg base CX0 2 "_law_sum" ["numbers"] (spLSum CF)) (k_law_low : Kn P w K mg base CX0 1 "_law_low" ["top", "bottom"] spLow) :
    Kn P w K mg base CX0 9 "_law_are_parts_right" ["one", "other"] (spParts CF) := by
  refine T.x_parts.kn fun f fd F => ?_
  refine F.ok sc_law_are_parts_right (fun vs H Q E h => ?_) (fun cdv A outer s H vs Q E hr h => ?_)
  · obtain ⟨a, b, s, t, p, r, u, q, rfl, _⟩ := h
    rfl
  · obtain ⟨a, b, s, t, p, r, u, q, rfl, hf, okf, hg, okg, qq⟩ := h
    refine ⟨_, (pss_cons (ps_par3 (by rfl) sc_law_are_parts_right.nd (i := 2) (j := 3) (l := 4) rfl rfl rfl (by decide) (by decide) (by decide) rfl rfl rfl (pa_cons (pkM0 k_Float_ratio T.l_Float hr (pv 0) rfl) (pa_cons (pkM0 k_Float_ratio T.l_Float hr (pv 1) rfl) (pa_cons (pk k_arith hr (pa_cons pe_str (pa_cons (pv 0) (pa_cons (pv 1) pa_nil)))) pa_nil))) (by rfl))
      (C8.pss_cut (ps_set (i := 5) sc_law_are_parts_right.nd rfl (Or.inl rfl) (pk k_split_sum hr (pa_cons (pv 0) (pa_cons (pv 1) pa_nil))))
      (C8.pss_cut (ps_if (PW.pt (pw_or (pt_cmpR op_ne (pe_cmpR op_isN (pv 5) pe_non (nomark _)) (pe_not (pkM0 k_Float_is_finite T.l_Float hr (pv 4) rfl)) (nomark _)) (pw_or1 (PW.pt (pw_and (pt_cmpR op_notN (pv 5) pe_non (nomark _)) (pw_and1 (pt_cmpR (op_neOwn k_Float_eq T.q_Float hr) (pe_ix ix_tup (pv 5) pe_int (fun _ _ => rfl)) (pv 4) (nomark _)))))))) (pss_one (ps_ret pe_bl)) pss_nil)
      (C8.pss_cut (ps_if (PW.pt (pw_and (pt_cmpR op_notN (pv 5) pe_non (nomark _)) (pw_and1 (pt_cmpR (op_neD hr.units) (pk k_law_sum hr (pa_cons (pe_callTy call_list_of (by rfl) T.b_list boot_list (pa_cons (pv 5) pa_nil)) pa_nil)) (pk k_law_sum hr (pa_cons (pe_lst (pa_cons (pv 0) (pa_cons (pv 1) pa_nil))) pa_nil)) (nomark _))))) (pss_one (ps_ret pe_bl)) pss_nil)
      (C8.pss_cut (ps_par (by rfl) sc_law_are_parts_right.nd (i := 6) (j := 5) rfl rfl (by decide) rfl rfl (pa_cons (pk k_arith hr (pa_cons pe_str (pa_cons (pv 0) (pa_cons (pv 1) pa_nil)))) (pa_cons (pk k_split_product hr (pa_cons (pv 0) (pa_cons (pv 1) pa_nil))) pa_nil)) (by rfl))
      (pss_cons (ps_set (i := 7) sc_law_are_parts_right.nd rfl (Or.inl rfl) (pk k_law_low hr (pa_cons (pe_op op_mulX (pe_ix ix_tup (pv 2) pe_int (fun _ _ => rfl)) (pe_ix ix_tup (pv 3) pe_int (fun _ _ => rfl))) (pa_cons (pe_op op_mulX (pe_ix ix_tup (pv 2) pe_int (fun _ _ => rfl)) (pe_ix ix_tup (pv 3) pe_int (fun _ _ => rfl))) pa_nil))))
      (pss_cons (ps_if (pt_cmpR op_notN (pv 5) pe_non (nomark _)) (pss_one (ps_ret (pe_and (pe_cmpR (op_eqOwn k_Float_eq hr) (pe_ix ix_tup (pv 5) pe_int (fun _ _ => rfl)) (pv 6) (nomark _)) (pe_one (pe_cmpR (op_eqD hr.units) (pk k_law_sum hr (pa_cons (pe_callTy call_list_of (by rfl) T.b_list boot_list (pa_cons (pv 5) pa_nil)) pa_nil)) (pv 7) (nomark _)))))) pss_nil)
      (pss_one (ps_ret (pe_or (pe_not (pkM0 k_Float_is_finite T.l_Float hr (pv 6) rfl)) (pe_one (pe_cmpR op_lt (pe_op op_mulX (pe_callB call_abs (by rfl) T.b_abs boot_abs (pa_cons (pe_ix ix_tup (pv 7) pe_int (fun _ _ => rfl)) pa_nil)) (pe_op op_shlW pe_int pe_int)) (pe_ix ix_tup (pv 7) pe_int (fun _ _ => rfl)) (nomark _))))))))))))), ?_⟩
    obtain ⟨da, h1⟩ := id hf
    obtain ⟨db, h2⟩ := id hg
    repeat walk_at "rd"
    refine w_par3 ?_
    repeat walk_at "rd"
    refine w_methI h1 (lk_rat _ _ _) ?_
    repeat walk_at "rd"
    refine ⟨a, s, t, p, rfl, hf, okf, fun q1 H1 s1 n1 e1 => ?_⟩
    repeat walk_at "rd"
    refine w_methI (s1 _ _ h2) (lk_rat _ _ _) ?_
    repeat walk_at "rd"
    refine ⟨b, r, u, q, rfl, hg.same s1, okg, fun q2 H2 s2 n2 e2 => ?_⟩
    have S2 := s1.trans s2
    repeat walk_at "rd"
    refine ⟨"add", .ref a, .ref b, .fl (.fin s t p), .fl (.fin r u q), rfl, .inl rfl, .inr (.inl rfl), nm_f (hf.same S2) okf, nm_f (hg.same S2) okg, fun wa H3 s3 k3 => ?_⟩
    have k3 : FlAt CF H3 wa (addM (.fin s t p) (.fin r u q)) := by
      have := k3
      rwa [show ariM "add" (toF (.fl (.fin s t p))) (toF (.fl (.fin r u q))) = addM (.fin s t p) (.fin r u q) from ariM_add] at this
    have S3 := S2.trans s3
    have e1 := s3 _ _ (s2 _ _ e1)
    have e2 := s3 _ _ e2
    have hf := hf.same S3
    have hg := hg.same S3
    have qq : ∀ H', Same H3 H' → Q (.bl true) H' := fun H' s' => qq H' (S3.trans s')
    clear S3 S2 s1 s2 s3 h1 h2
    repeat walk_at "rd"
    refine ⟨_, _, _, rfl, ?_⟩
    repeat walk_at "rd"
    refine w_cut (Mid := fun σ' H' => Same H3 H' ∧ ∃ v, σ' = [some (.ref a), some (.ref b), some (.ref q1), some (.ref q2), some (.ref wa), some v, none, none] ∧ TS CF (vN (.fl (.fin s t p)) + vN (.fl (.fin r u q))) (addM (.fin s t p) (.fin r u q)) (NoFin (addM (.fin s t p) (.fin r u q))) v H') ?_ ?_
    · repeat walk_at "rd"
      refine ⟨a, b, s, t, p, r, u, q, rfl, hf, okf, hg, okg, fun z H' s' => ?_, fun S M P' e o w2 x S2 M2 P2 H' s' eo kw kx okw okx ev => ?_⟩
      · repeat walk_at "rd"
        exact ⟨s', _, rfl, .inl ⟨rfl, z⟩⟩
      · repeat walk_at "rd"
        exact ⟨s', _, rfl, .inr ⟨o, w2, x, S, M, P', S2, M2, P2, rfl, eo, e, kw, kx, okw, okx, ev⟩⟩
    rintro σ' H4 ⟨s4, v, rfl, ts⟩
    refine w_cut (Mid := fun σ' H' => Same H3 H' ∧ σ' = [some (.ref a), some (.ref b), some (.ref q1), some (.ref q2), some (.ref wa), some v, none, none] ∧ TS CF (vN (.fl (.fin s t p)) + vN (.fl (.fin r u q))) (addM (.fin s t p) (.fin r u q)) (NoFin (addM (.fin s t p) (.fin r u q))) v H') ?_ ?_
    · have k4 := k3.same s4
      obtain ⟨dw, hw⟩ := id k4
      rcases id ts with ⟨rfl, z⟩ | ⟨o, w2, x, S, M, P', S2, M2, P2, rfl, eo, eW, kw, kx, okw, okx, ev⟩
      · repeat walk_at "rd"
        refine w_methI hw (lk_fin _ _ _) ?_
        repeat walk_at "rd"
        refine ⟨wa, _, rfl, k4, ?_⟩
        rw [show (addM (.fin s t p) (.fin r u q)).isFin = false from z]
        repeat walk_at "rd"
        refine w_ne rfl ?_
        repeat walk_at "rd"
        refine iF ?_
        repeat walk_at "rd"
        refine iF ?_
        repeat walk_at "rd"
        exact ⟨s4, rfl, ts⟩
      · repeat walk_at "rd"
        refine w_methI hw (lk_fin _ _ _) ?_
        repeat walk_at "rd"
        refine ⟨wa, _, rfl, k4, ?_⟩
        rw [eW] at k4 ts ⊢
        repeat walk_at "rd"
        refine w_ne rfl ?_
        repeat walk_at "rd"
        refine iF ?_
        repeat walk_at "rd"
        refine iN (fun _ => ?_) (fun c => nomatch c)
        repeat walk_at "rd"
        refine w_ixT eo (v := .ref w2) rfl ?_
        repeat walk_at "rd"
        refine u_eqF kw k4 fun H5 s5 => ?_
        repeat walk_at "rd"
        refine iF ?_
        repeat walk_at "rd"
        exact ⟨s4.trans s5, rfl, ts.same s5⟩
    rintro σ' H5 ⟨s5, rfl, ts⟩
    clear s4
    refine w_cut (Mid := fun σ' H' => Same H3 H' ∧ σ' = [some (.ref a), some (.ref b), some (.ref q1), some (.ref q2), some (.ref wa), some v, none, none]) ?_ ?_
    · rcases ts with ⟨rfl, z⟩ | ⟨o, w2, x, S, M, P', S2, M2, P2, rfl, eo, eW, kw, kx, okw, okx, ev⟩
      · repeat walk_at "rd"
        refine iN (fun c => absurd rfl c) (fun _ => ?_)
        repeat walk_at "rd"
        exact ⟨s5, rfl⟩
      · repeat walk_at "rd"
        refine iN (fun _ => ?_) (fun c => nomatch c)
        repeat walk_at "rd"
        refine ⟨o, _, rfl, .inr (SqT.of eo), fun l n6 => ?_⟩
        have s6 : Same H5 (upd H5 l (.lst [.ref w2, .ref x])) := same_upd n6
        have e6 := upd_same (H := H5) (a := l) (o := .lst [.ref w2, .ref x])
        generalize upd H5 l (.lst [.ref w2, .ref x]) = H6 at s6 e6 ⊢
        repeat walk_at "rd"
        refine ⟨l, _, _, rfl, e6, nl2 (nm_f (kw.same s6) okw) (fin_n okw) (nm_f (kx.same s6) okx) (fin_n okx), by show 2 ≤ 1000; decide, fun q7 H7 s7 e7 => ?_⟩
        have S7 := s5.trans (s6.trans s7)
        repeat walk_at "rd"
        refine w_lst2 fun l8 H8 s8 n8 e8 => ?_
        have S8 := S7.trans s8
        repeat walk_at "rd"
        refine ⟨l8, _, _, rfl, e8, nl2 (nm_f (hf.same S8) okf) (fin_n okf) (nm_f (hg.same S8) okg) (fin_n okg), by show 2 ≤ 1000; decide, fun q9 H9 s9 e9 => ?_⟩
        rw [sumV2, ev] at e7
        rw [sumV2] at e9
        refine ⟨_, _, dp2 (s9 _ _ (s8 _ _ e7)), dp2 e9, rfl, rfl, ?_⟩
        rw [eqv2, decide_eq_true rfl, decide_eq_true rfl]
        repeat walk_at "rd"
        refine iF ?_
        repeat walk_at "rd"
        exact ⟨S8.trans s9, rfl⟩
    rintro σ' H6 ⟨s6, rfl⟩
    clear s5 ts
    refine w_cut (Mid := fun σ' H' => Same H3 H' ∧ ∃ wp v, σ' = [some (.ref a), some (.ref b), some (.ref q1), some (.ref q2), some (.ref wa), some v, some (.ref wp), none] ∧ FlAt CF H' wp (mulM (.fin s t p) (.fin r u q)) ∧
      TS CF (s * r * (t * u * G (p + q))) (mulM (.fin s t p) (.fin r u q)) (NoFin (mulM (.fin s t p) (.fin r u q)) ∨ t * u * G (p + q) < G (-900)) v H') ?_ ?_
    · have hf := hf.same s6
      have hg := hg.same s6
      repeat walk_at "rd"
      refine ⟨"mul", .ref a, .ref b, .fl (.fin s t p), .fl (.fin r u q), rfl, .inr (.inr (.inl rfl)), .inr (.inl rfl), nm_f hf okf, nm_f hg okg, fun wp H7 s7 k7 => ?_⟩
      have k7 : FlAt CF H7 wp (mulM (.fin s t p) (.fin r u q)) := by
        have := k7
        rwa [show ariM "mul" (toF (.fl (.fin s t p))) (toF (.fl (.fin r u q))) = mulM (.fin s t p) (.fin r u q) from ariM_mul] at this
      repeat walk_at "rd"
      refine ⟨a, b, s, t, p, r, u, q, rfl, hf.same s7, okf, hg.same s7, okg, fun z H' s' => ?_, fun S M P' e o w2 x S2 M2 P2 H' s' eo kw kx okw okx ev => ?_⟩
      · repeat walk_at "rd"
        exact ⟨s6.trans (s7.trans s'), wp, _, rfl, k7.same s', .inl ⟨rfl, z⟩⟩
      · repeat walk_at "rd"
        exact ⟨s6.trans (s7.trans s'), wp, _, rfl, k7.same s', .inr ⟨o, w2, x, S, M, P', S2, M2, P2, rfl, eo, e, kw, kx, okw, okx, ev⟩⟩
    rintro σ' H7 ⟨s7, wp, v, rfl, k7, ts⟩
    have fv := mul_fv okf okg
    have c1 := ratT_b okf
    have c2 := ratT_b okg
    have c3 := ratB_b okf
    have c4 := ratB_b okg
    have c5 := bits_mul (ratT s t p) (ratT r u q)
    have c6 := bits_mul (ratB p) (ratB q)
    repeat walk_at "rd"
    refine w_ixT (s7 _ _ e1) (v := .int (ratT s t p)) rfl ?_
    repeat walk_at "rd"
    refine w_ixT (s7 _ _ e2) (v := .int (ratT r u q)) rfl ?_
    refine w_I (cmulx (i := ratT s t p) (j := ratT r u q) (by omega) (by omega)) ?_
    repeat walk_at "rd"
    refine w_ixT (s7 _ _ e1) (v := .int (ratB p)) rfl ?_
    repeat walk_at "rd"
    refine w_ixT (s7 _ _ e2) (v := .int (ratB q)) rfl ?_
    refine w_I (cmulx (i := ratB p) (j := ratB q) (by omega) (by omega)) ?_
    repeat walk_at "rd"
    refine u_low fv.d0 (by omega) fun qe H8 s8 e8 => ?_
    have k8 := k7.same s8
    have S8 := s7.trans s8
    repeat walk_at "rd"
    rcases ts.same s8 with ⟨rfl, z⟩ | ⟨o, w2, x, S, M, P', S2, M2, P2, rfl, eo, eW, kw, kx, okw, okx, ev⟩
    · refine iN (fun c => absurd rfl c) (fun _ => ?_)
      obtain ⟨dp, hp⟩ := id k8
      repeat walk_at "rd"
      refine w_methI hp (lk_fin _ _ _) ?_
      repeat walk_at "rd"
      refine ⟨wp, _, rfl, k8, ?_⟩
      repeat walk_at "rd"
      cases hfin : (mulM (.fin s t p) (.fin r u q)).isFin with
      | false =>
        repeat walk_at "rd"
        refine iT ?_
        repeat walk_at "rd"
        exact qq _ S8
      | true =>
        have sm : t * u * G (p + q) < G (-900) := by
          rcases z with z | z
          · exact absurd (hfin.symm.trans z) (by decide)
          · exact z
        have ml := mul_small okf okg sm
        have lb := low_d (t := ratT s t p * ratT r u q) fv.d0
        have e900 : (1 : Int) * 2 ^ (900 : Int).toNat = 2 ^ 900 := by decide
        have b900 : bits ((2 : Int) ^ 900) ≤ 901 := by rw [bits_pow]; omega
        have bx : bits (lowM (ratT s t p * ratT r u q) (ratB p * ratB q)).1 ≤ ((2100 : Nat) : Int) := bits_le_of (k := 2100) lb.xt (by omega)
        have ba := absI_bits (lowM (ratT s t p * ratT r u q) (ratB p * ratB q)).1
        generalize (lowM (ratT s t p * ratT r u q) (ratB p * ratB q)).1 = x at *
        generalize (lowM (ratT s t p * ratT r u q) (ratB p * ratB q)).2 = y at *
        repeat walk_at "rd"
        refine iF ?_
        repeat walk_at "rd"
        refine w_ixT e8 (v := .int x) rfl ?_
        repeat walk_at "rd"
        rw [show (if x < 0 then -x else x) = absI x from rfl]
        repeat walk_at "rd"
        refine w_I (cshl (i := 1) (j := 900) (by decide) (by decide) (by decide)) ?_
        rw [e900]
        refine w_I (cmulx (i := absI x) (j := 2 ^ 900) (by omega) (by omega)) ?_
        repeat walk_at "rd"
        refine w_ixT e8 (v := .int y) rfl ?_
        repeat walk_at "rd"
        rw [decide_eq_true ml]
        exact qq _ S8
    · refine iN (fun _ => ?_) (fun c => nomatch c)
      repeat walk_at "rd"
      refine w_ixT eo (v := .ref w2) rfl ?_
      repeat walk_at "rd"
      rw [eW] at k8
      refine u_eqF (g := id) kw k8 fun H9 s9 => ?_
      repeat walk_at "rd"
      refine iT ?_
      repeat walk_at "rd"
      refine ⟨o, _, rfl, .inr (SqT.of (s9 _ _ eo)), fun l n10 => ?_⟩
      have s10 : Same H9 (upd H9 l (.lst [.ref w2, .ref x])) := same_upd n10
      have e10 := upd_same (H := H9) (a := l) (o := .lst [.ref w2, .ref x])
      generalize upd H9 l (.lst [.ref w2, .ref x]) = H10 at s10 e10 ⊢
      have S10 := s9.trans s10
      repeat walk_at "rd"
      refine ⟨l, _, _, rfl, e10, nl2 (nm_f (kw.same S10) okw) (fin_n okw) (nm_f (kx.same S10) okx) (fin_n okx), by show 2 ≤ 1000; decide, fun q11 H11 s11 e11 => ?_⟩
      rw [sumV2, ev] at e11
      have S11 := S10.trans s11
      have el : lowM (ratT s t p * ratT r u q) (ratB p * ratB q) = lowV (s * r * (t * u * G (p + q))) := low_eq fv.d0 (G_pos 0) fv.e
      rw [el] at e8
      repeat walk_at "rd"
      refine w_eqD (dp2 e11) (dp2 (S11 _ _ e8)) rfl rfl ?_
      rw [eqv2, decide_eq_true rfl, decide_eq_true rfl]
      exact qq _ (S8.trans S11)
end
end Nu

set_option Elab.async false
set_option linter.all false
set_option maxRecDepth 100000
set_option autoImplicit false
set_option maxHeartbeats 4000000
namespace Nu
open PySem PySem.Spec PyProof.Rows L2 Rd
local macro_rules | `(tactic| walk_at "hp") => `(tactic| first | assumption | (refine same_get ?sm ?_; (case sm => assumption); walk_at "hp"))
local macro_rules | `(tactic| walk_at "rd") => `(tactic| first
  | with_reducible refine w_nx ?_
  | with_reducible refine w_rt ?_
  | with_reducible refine w_bk ?_
  | with_reducible refine w_ct ?_
  | with_reducible refine w_seq ?_
  | with_reducible refine w_next ?_
  | with_reducible refine w_ret ?_
  | with_reducible refine w_ifS ?_
  | with_reducible refine w_asg ?_
  | with_reducible refine w_name ?_
  | with_reducible refine w_par ?_
  | with_reducible refine w_parI ?_
  | with_reducible refine w_ii ?_
  | with_reducible refine w_i1 ?_
  | with_reducible refine w_drop ?_
  | with_reducible refine w_sFld ?_
  | ((with_reducible refine' w_var ?rdh ?_); (case rdh => exact rfl))
  | with_reducible refine w_c ?_
  | with_reducible refine w_op ?_
  | with_reducible refine w_un ?_
  | with_reducible refine w_I0 ?_
  | with_reducible refine w_U ?_
  | with_reducible refine w_bits ?_
  | with_reducible refine w_bitsI ?_
  | with_reducible refine w_tup ?_
  | with_reducible refine w_lst ?_
  | with_reducible refine w_nil ?_
  | with_reducible refine w_cons ?_
  | with_reducible refine w_fld ?_
  | with_reducible refine w_call ?_
  | with_reducible refine w_make ?_
  | with_reducible refine w_gsub ?_
  | with_reducible refine w_int1 ?_
  | with_reducible refine w_intB ?_
  | with_reducible refine w_for ?_
  | with_reducible refine w_rng1 ?_
  | with_reducible refine w_iList ?_
  | with_reducible refine w_iTup ?_
  | with_reducible refine w_makeD ?_
  | with_reducible refine w_nn ?_
  | with_reducible refine w_subB ?_
  | with_reducible refine w_meth ?_
  | with_reducible refine w_cb ?_
  | with_reducible refine w_test ?_
  | with_reducible refine w_B ?_
  | with_reducible refine w_bl ?_
  | with_reducible refine w_andV ?_
  | with_reducible refine w_orV ?_
  | with_reducible refine w_notV ?_
  | with_reducible refine w_and ?_
  | with_reducible refine w_or ?_
  | with_reducible refine w_not ?_
  | with_reducible refine w_if ?_
  | with_reducible refine w_gnil ?_
  | with_reducible refine w_gcons ?_
  | with_reducible refine iT ?_
  | with_reducible refine iF ?_
  | with_reducible refine w_eqI ?_
  | with_reducible refine w_neI ?_
  | with_reducible refine w_eqS ?_
  | with_reducible refine w_eqIS ?_
  | with_reducible refine w_eqSI ?_)

theorem arg3 {s t p : Int} (hs : s = 1 ∨ s = -1) (t0 : 0 ≤ t) (t1 : t ≤ 9007199254740992) (p0 : -1074 ≤ p) (hb : bits t + p ≤ 1024) : Arg s (.int t) p (.fin s (red t p).1 (red t p).2) := .inl ⟨t, rfl, t0, hs, red_fits t0 t1 p0 hb, rfl⟩
theorem arg53 {s t p : Int} (hs : s = 1 ∨ s = -1) (t0 : 0 ≤ t) (t1 : t < 9007199254740992) (p0 : -1074 ≤ p) (p1 : p ≤ 971) : Arg s (.int t) p (.fin s (red t p).1 (red t p).2) := by
  refine arg3 hs t0 (by omega) p0 ?_
  have := bits_small t0 (k := 53) (by rw [show (2 : Int) ^ 53 = 9007199254740992 by decide]; exact t1)
  omega
section
variable {P : Program} {w : World} {K : PySem.W.Frag} {mg : Str → Option Value} {base : Heap} {CF CE CL : Addr}
theorem u_draw {p : Addr} {many : Int} {n : Nat} {H : Hp} {Q : VK} {E : XK} (hw : Well n H p) (hn : n < 1000000) (m0 : 0 < many) (m1 : bits many ≤ 64) (q : ∀ r H', Oth p H H' → Well (n + 1) H' p → 0 ≤ r → r < many → Q (.int r) H') : spDraw ([V.ref p, V.int many] ++ []) H Q E := ⟨p, many, n, rfl, hw, hn, m0, m1, q⟩
theorem u_one {p l : Addr} {xs : List L2.V} {n : Nat} {H : Hp} {Q : VK} {E : XK} (hw : Well n H p) (hn : n < 1000000) (hl : H l = some (.lst xs)) (lp : l ≠ p) (x0 : 0 < xs.length) (x1 : xs.length ≤ 1000) (q : ∀ v H', v ∈ xs → Oth p H H' → Well (n + 1) H' p → Q v H') : spOne ([V.ref p, V.ref l] ++ []) H Q E := ⟨p, l, n, xs, rfl, hw, hn, lp, hl, x0, x1, fun i v H' hv => q v H' (List.mem_of_getElem? hv)⟩
theorem Well.ne {n : Nat} {H : Hp} {p l : Addr} (h : Well n H p) (e : H l = none) : l ≠ p := by
  rintro rfl
  obtain ⟨_, _, _, k, _⟩ := h
  rw [e] at k
  cases k
theorem Well.here {n : Nat} {H : Hp} {p : Addr} (h : Well n H p) : ∃ xs, H p = some (.lst xs) := let ⟨_, _, _, e, _⟩ := h; ⟨_, e⟩
theorem FlAt.othL {H H' : Hp} {a x : Addr} {f : Fl} {xs : List L2.V} (h : FlAt CF H x f) (hp : H a = some (.lst xs)) (o : Oth a H H') : FlAt CF H' x f := by
  obtain ⟨dx, e⟩ := h
  refine ⟨dx, o _ _ ?_ e⟩
  rintro rfl
  rw [e] at hp
  cases hp
theorem FlAt.othW {p : Addr} {H H' : Hp} {x : Addr} {k : Nat} {f : Fl} (h : FlAt CF H x f) (o : Oth p H H') (hw : Well k H p) : FlAt CF H' x f := let ⟨_, e⟩ := hw.here; h.othL e o
def spFlt (CF : Addr) : Sp := fun vs H Q _ => ∃ (p : Addr) (n : Nat), vs = [.ref p] ∧ Well n H p ∧ n < 900000 ∧
  ∀ x s t pw H', Oth p H H' → Well (n + 20) H' p → FlAt CF H' x (.fin s t pw) → (Fl.fin s t pw).ok → Q (.ref x) H'
theorem sc_law_float : FnScope ["well", "kind", "sign", "top"] ["well"] (defScope s_law_float) := ⟨rfl, rfl, rfl, by decide +kernel, rfl, by decide +kernel, by decide +kernel⟩
theorem ok_float (T : AllP K mg CF CE CL) (k_law_draw : Kn P w K mg base CX0 1 "_law_draw" ["well", "many"] spDraw) (k_law_one : Kn P w K mg base CX0 2 "_law_one" ["well", "some"] spOne) (k_Float_init : KnC P w K mg base CX0 2 "Float" CF ["self", "sign", "top", "power"] (spInit CF)) :
    Kn P w K mg base CX0 4 "_law_float" ["well"] (spFlt CF) := by
  refine T.x_float.kn fun f fd F => ?_
  refine F.ok sc_law_float (fun vs H Q E h => ?_) (fun cdv A outer s H vs Q E hr h => ?_)
  · obtain ⟨p, n, rfl, _⟩ := h
    rfl
  · obtain ⟨p, n, rfl, hw, hn, q⟩ := h
    refine ⟨_, (pss_cons (ps_par (by rfl) sc_law_float.nd (i := 1) (j := 2) rfl rfl (by decide) rfl rfl (pa_cons (pk k_law_draw hr (pa_cons (pv 0) (pa_cons pe_int pa_nil))) (pa_cons (pk k_law_one hr (pa_cons (pv 0) (pa_cons (pe_lst (pa_cons pe_int (pa_cons (pe_op op_sub pe_int pe_int) pa_nil))) pa_nil))) pa_nil)) (by rfl))
      (pss_cons (ps_set (i := 3) sc_law_float.nd rfl (Or.inl rfl) (pe_op op_add (pe_op op_add (pe_op op_add pe_int (pk k_law_draw hr (pa_cons (pv 0) (pa_cons (pe_op op_shlW pe_int pe_int) pa_nil)))) (pe_op op_shlW (pk k_law_draw hr (pa_cons (pv 0) (pa_cons (pe_op op_shlW pe_int pe_int) pa_nil))) pe_int)) (pe_op op_shlW (pk k_law_draw hr (pa_cons (pv 0) (pa_cons (pe_op op_shlW pe_int pe_int) pa_nil))) pe_int)))
      (pss_cons (ps_if (pt_cmpR op_eq (pv 1) pe_int (nomark _)) (pss_one (ps_ret (pkC k_Float_init hr (pa_cons (pv 2) (pa_cons (pk k_law_one hr (pa_cons (pv 0) (pa_cons (pe_lst (pa_cons pe_int (pa_cons pe_int (pa_cons pe_int (pa_cons pe_int (pa_cons pe_int (pa_cons pe_int pa_nil))))))) pa_nil))) (pa_cons (pk k_law_one hr (pa_cons (pv 0) (pa_cons (pe_lst (pa_cons pe_int (pa_cons (pe_op op_sub pe_int pe_int) (pa_cons (pe_op op_sub pe_int pe_int) (pa_cons pe_int pa_nil))))) pa_nil))) pa_nil)))))) pss_nil)
      (pss_cons (ps_if (pt_cmpR op_eq (pv 1) pe_int (nomark _)) (pss_one (ps_ret (pkC k_Float_init hr (pa_cons (pv 2) (pa_cons (pe_op op_add pe_int (pk k_law_draw hr (pa_cons (pv 0) (pa_cons pe_int pa_nil)))) (pa_cons (pe_op op_sub pe_int pe_int) pa_nil)))))) pss_nil)
      (pss_cons (ps_if (pt_cmpR op_eq (pv 1) pe_int (nomark _)) (pss_one (ps_ret (pkC k_Float_init hr (pa_cons (pv 2) (pa_cons (pe_op op_sub (pe_op op_sub (pe_op op_shlW pe_int pe_int) pe_int) (pk k_law_draw hr (pa_cons (pv 0) (pa_cons pe_int pa_nil)))) (pa_cons pe_int pa_nil)))))) pss_nil)
      (pss_cons (ps_if (pt_cmpR op_eq (pv 1) pe_int (nomark _)) (pss_one (ps_ret (pkC k_Float_init hr (pa_cons (pv 2) (pa_cons pe_int (pa_cons (pe_op op_sub (pk k_law_draw hr (pa_cons (pv 0) (pa_cons pe_int pa_nil))) pe_int) pa_nil)))))) pss_nil)
      (pss_cons (ps_if (pt_cmpR op_eq (pv 1) pe_int (nomark _)) (pss_one (ps_ret (pkC k_Float_init hr (pa_cons (pv 2) (pa_cons (pv 3) (pa_cons (pe_op op_sub (pe_op op_sub pe_int pe_int) (pk k_law_draw hr (pa_cons (pv 0) (pa_cons pe_int pa_nil)))) pa_nil)))))) pss_nil)
      (pss_one (ps_ret (pkC k_Float_init hr (pa_cons (pv 2) (pa_cons (pv 3) (pa_cons (pe_op op_sub (pk k_law_draw hr (pa_cons (pv 0) (pa_cons pe_int pa_nil))) pe_int) pa_nil))))))))))))), ?_⟩
    have e20 : (1 : Int) * 2 ^ (20 : Int).toNat = 1048576 := by decide
    have e12 : (1 : Int) * 2 ^ (12 : Int).toNat = 4096 := by decide
    have e53 : (1 : Int) * 2 ^ (53 : Int).toNat = 9007199254740992 := by decide
    repeat walk_at "rd"
    refine u_draw hw (by omega) (by decide) (by decide) fun kd H1 o1 w1 kl ku => ?_
    repeat walk_at "rd"
    refine w_lst2 fun l2 H2 s2 n2 h2 => ?_
    repeat walk_at "rd"
    refine u_one (w1.same s2) (by omega) h2 (w1.ne n2) (by decide) (by decide) fun v H3 hv o3 w3 => ?_
    have o3 := (o1.same s2).trans o3
    obtain ⟨sg, rfl, hs⟩ : ∃ sg, v = .int sg ∧ (sg = 1 ∨ sg = -1) := by
      simp only [List.mem_cons, List.not_mem_nil, or_false] at hv
      rcases hv with rfl | rfl
      · exact ⟨_, rfl, .inl rfl⟩
      · exact ⟨_, rfl, .inr rfl⟩
    repeat walk_at "rd"
    refine w_I (cshl (i := 1) (j := 20) (by decide) (by decide) (by decide)) ?_
    rw [e20]
    repeat walk_at "rd"
    refine u_draw w3 (by omega) (by decide) (by decide) fun t1 H4 o4 w4 t1l t1u => ?_
    repeat walk_at "rd"
    refine w_I (cshl (i := 1) (j := 20) (by decide) (by decide) (by decide)) ?_
    rw [e20]
    repeat walk_at "rd"
    refine u_draw w4 (by omega) (by decide) (by decide) fun t2 H5 o5 w5 t2l t2u => ?_
    repeat walk_at "rd"
    refine w_I (cshl (i := t2) (j := 20) (by have := bits_small t2l (k := 20) (by rw [show (2 : Int) ^ 20 = 1048576 by decide]; exact t2u); omega) (by decide) (by decide)) ?_
    repeat walk_at "rd"
    refine w_I (cshl (i := 1) (j := 12) (by decide) (by decide) (by decide)) ?_
    rw [e12]
    repeat walk_at "rd"
    refine u_draw w5 (by omega) (by decide) (by decide) fun t3 H6 o6 w6 t3l t3u => ?_
    repeat walk_at "rd"
    refine w_I (cshl (i := t3) (j := 40) (by have := bits_small t3l (k := 12) (by rw [show (2 : Int) ^ 12 = 4096 by decide]; exact t3u); omega) (by decide) (by decide)) ?_
    have o6 := ((o3.trans o4).trans o5).trans o6
    have ht : 0 ≤ 1 + t1 + t2 * 2 ^ (20 : Int).toNat + t3 * 2 ^ (40 : Int).toNat ∧ 1 + t1 + t2 * 2 ^ (20 : Int).toNat + t3 * 2 ^ (40 : Int).toNat < 9007199254740992 := by
      rw [show (2 : Int) ^ (20 : Int).toNat = 1048576 by decide, show (2 : Int) ^ (40 : Int).toNat = 1099511627776 by decide]
      omega
    refine w_I0 ?_
    generalize 1 + t1 + t2 * 2 ^ (20 : Int).toNat + t3 * 2 ^ (40 : Int).toNat = tp at ht ⊢
    have fin : ∀ {x s t pw H'}, Oth p H H' → Well (n + 8) H' p → FlAt CF H' x (.fin s t pw) → (Fl.fin s t pw).ok → Q (.ref x) H' := fun o w k ok => q _ _ _ _ _ o (w.mono (by omega)) k ok
    repeat walk_at "rd"
    refine iD (fun _ => ?_) (fun _ => ?_)
    · repeat walk_at "rd"
      refine w_lstI (by show 6 ≤ 1000; decide) fun l7 H7 s7 n7 h7 => ?_
      repeat walk_at "rd"
      refine u_one (w6.same s7) (by omega) h7 (w6.ne n7) (by decide) (by decide) fun v H8 hv o8 w8 => ?_
      have o8 := (o6.same s7).trans o8
      obtain ⟨tt, rfl, tt0, tt1⟩ : ∃ tt, v = .int tt ∧ 0 ≤ tt ∧ tt ≤ 25 := by
        simp only [List.mem_cons, List.not_mem_nil, or_false] at hv
        rcases hv with rfl | rfl | rfl | rfl | rfl | rfl <;> exact ⟨_, rfl, by decide, by decide⟩
      repeat walk_at "rd"
      refine w_lst4 fun l9 H9 s9 n9 h9 => ?_
      repeat walk_at "rd"
      refine u_one (w8.same s9) (by omega) h9 (w8.ne n9) (by decide) (by decide) fun v H10 hv o10 w10 => ?_
      have o10 := (o8.same s9).trans o10
      obtain ⟨pp, rfl, pp0, pp1⟩ : ∃ pp, v = .int pp ∧ -3 ≤ pp ∧ pp ≤ 4 := by
        simp only [List.mem_cons, List.not_mem_nil, or_false] at hv
        rcases hv with rfl | rfl | rfl | rfl <;> exact ⟨_, rfl, by decide, by decide⟩
      repeat walk_at "rd"
      have ag := arg53 hs tt0 (by omega) (show -1074 ≤ pp by omega) (by omega)
      exact u_Float ag fun x H' s1 n1 k1 => fin (o10.same s1) ((w10.mono (by omega)).same s1) k1 (Arg.ok ag)
    repeat walk_at "rd"
    refine iD (fun _ => ?_) (fun _ => ?_)
    · repeat walk_at "rd"
      refine u_draw w6 (by omega) (by decide) (by decide) fun tt H7 o7 w7 ttl ttu => ?_
      repeat walk_at "rd"
      have ag := arg53 hs (show 0 ≤ 1 + tt by omega) (by omega) (show -1074 ≤ 0 - 1074 by omega) (by omega)
      exact u_Float ag fun x H' s1 n1 k1 => fin ((o6.trans o7).same s1) ((w7.mono (by omega)).same s1) k1 (Arg.ok ag)
    repeat walk_at "rd"
    refine iD (fun _ => ?_) (fun _ => ?_)
    · repeat walk_at "rd"
      refine w_I (cshl (i := 1) (j := 53) (by decide) (by decide) (by decide)) ?_
      rw [e53]
      repeat walk_at "rd"
      refine u_draw w6 (by omega) (by decide) (by decide) fun tt H7 o7 w7 ttl ttu => ?_
      repeat walk_at "rd"
      have ag := arg53 hs (show 0 ≤ 9007199254740992 - 1 - tt by omega) (by omega) (show -1074 ≤ (971 : Int) by omega) (by omega)
      exact u_Float ag fun x H' s1 n1 k1 => fin ((o6.trans o7).same s1) ((w7.mono (by omega)).same s1) k1 (Arg.ok ag)
    repeat walk_at "rd"
    refine iD (fun _ => ?_) (fun _ => ?_)
    · repeat walk_at "rd"
      refine u_draw w6 (by omega) (by decide) (by decide) fun tt H7 o7 w7 ttl ttu => ?_
      repeat walk_at "rd"
      have ag := arg3 hs (show 0 ≤ (1 : Int) by decide) (by decide) (show -1074 ≤ tt - 1022 by omega) (by rw [show bits 1 = 1 by decide]; omega)
      exact u_Float ag fun x H' s1 n1 k1 => fin ((o6.trans o7).same s1) ((w7.mono (by omega)).same s1) k1 (Arg.ok ag)
    repeat walk_at "rd"
    refine iD (fun _ => ?_) (fun _ => ?_)
    · repeat walk_at "rd"
      refine u_draw w6 (by omega) (by decide) (by decide) fun tt H7 o7 w7 ttl ttu => ?_
      repeat walk_at "rd"
      have ag := arg53 hs ht.1 ht.2 (show -1074 ≤ 0 - 40 - tt by omega) (by omega)
      exact u_Float ag fun x H' s1 n1 k1 => fin ((o6.trans o7).same s1) ((w7.mono (by omega)).same s1) k1 (Arg.ok ag)
    repeat walk_at "rd"
    refine u_draw w6 (by omega) (by decide) (by decide) fun tt H7 o7 w7 ttl ttu => ?_
    repeat walk_at "rd"
    have ag := arg53 hs ht.1 ht.2 (show -1074 ≤ tt - 1000 by omega) (by omega)
    exact u_Float ag fun x H' s1 n1 k1 => fin ((o6.trans o7).same s1) ((w7.mono (by omega)).same s1) k1 (Arg.ok ag)
/-! ### the wells -/
def WellsAt (H : Hp) (L : Addr) (ps : List Addr) : Prop := H L = some (.lst (ps.map V.ref)) ∧ ps.Nodup ∧ ∀ q ∈ ps, Well 0 H q
theorem well_ne {n : Nat} {H : Hp} {L q : Addr} {ps : List Addr} (h : H L = some (.lst (ps.map V.ref))) (hw : Well n H q) : q ≠ L := by
  rintro rfl
  obtain ⟨a, b, c, e, _⟩ := hw
  rw [h] at e
  cases ps with
  | nil => cases e
  | cons x xs => cases e
def spWells (K : PySem.W.Frag) : Sp := fun vs H Q _ => ∃ (a : Addr) (ns : List Int) (many : Int), vs = [.ref a, .int many] ∧ SqL K H a (ns.map V.int) ∧ ns.length ≤ 63 ∧ (∀ z ∈ ns, bits z ≤ 1048576) ∧ ∀ L ps H', Same H H' → WellsAt H' L ps → Q (.ref L) H'
theorem w_list1 {p : Addr} {ys : List L2.V} {H : Hp} {Q : VK} (h : SqL K H p ys) (q : ∀ l H', Same H H' → H l = none → H' l = some (.lst ys) → Q (.ref l) H') : ∃ p' ys', [V.ref p] = [V.ref p'] ∧ (SqL K H p' ys' ∨ SqT K H p' ys') ∧ ∀ l, H l = none → Q (.ref l) (upd H l (.lst ys')) :=
  ⟨p, ys, rfl, .inl h, fun l hl => q l _ (same_upd hl) hl upd_same⟩
theorem sc_law_wells : FnScope ["script", "many", "cell"] ["script", "many"] (defScope s_law_wells) := ⟨rfl, rfl, rfl, by decide +kernel, rfl, by decide +kernel, by decide +kernel⟩
theorem ok_wells (T : AllP K mg CF CE CL) (k_law_well : Kn P w K mg base CX0 1 "_law_well" ["cell"] spWell) : Kn P w K mg base CX0 2 "_law_wells" ["script", "many"] (spWells K) := by
  refine T.x_wells.kn fun f fd F => ?_
  refine F.ok sc_law_wells (fun vs H Q E h => ?_) (fun cdv A outer s H vs Q E hr h => ?_)
  · obtain ⟨a, ns, many, rfl, _⟩ := h
    rfl
  · obtain ⟨a, ns, many, rfl, hS, hl, hb, q⟩ := h
    refine ⟨_, (pss_one (ps_ret (pe_lc (own := [("cell", 2)]) (g := (gName 2)) (tt := tYes) rfl sc_law_wells.nd (pi_list (pe_slice sl_list (pe_op op_cat (pe_callTy call_list_of (by rfl) T.b_list boot_list (pa_cons (pv 0) pa_nil)) (pe_lst (pa_cons pe_int pa_nil))) po_none (po_some (pv 1)))) (blkOk_by (N := ["script", "many", "cell"]) (sc := defScope s_law_wells) (by decide +kernel)) (fun _ _ _ _ _ => (pg_name (i := 2) sc_law_wells.nd rfl (Or.inl rfl))) (fun _ _ _ _ _ => pts_nil) (fun _ _ _ _ _ => (pk k_law_well hr (pa_cons (pv 2) pa_nil)))))), ?_⟩
    refine w_ret ?_
    refine w_lc ?_
    refine w_iList ?_
    refine w_sl ?_
    repeat walk_at "rd"
    refine ⟨a, _, rfl, .inl hS, fun l1 n1 => ?_⟩
    have s1 : Same H (upd H l1 (.lst (ns.map V.int))) := same_upd n1
    have h1 := upd_same (H := H) (a := l1) (o := .lst (ns.map V.int))
    generalize upd H l1 (.lst (ns.map V.int)) = H1 at s1 h1 ⊢
    repeat walk_at "rd"
    refine w_lst1 fun l2 H2 s2 n2 h2 => ?_
    refine w_cat (s2 _ _ h1) h2 (by rw [List.length_map]; exact Nat.le_trans (Nat.add_le_add_right hl _) (by show 63 + 1 ≤ sizeLine; decide)) fun l3 H3 s3 n3 h3 => ?_
    refine w_noPart ?_
    refine w_part ?_
    repeat walk_at "rd"
    refine w_slL h3 fun L H4 s4 n4 h4 => ?_
    have hx : ∀ x ∈ cutV (ns.map V.int ++ [V.int 0]) none (some many), ∃ z, x = .int z ∧ bits z ≤ 1048576 := by
      intro x hx
      have := cut_mem hx
      simp only [List.mem_append, List.mem_map, List.mem_cons, List.not_mem_nil, or_false] at this
      rcases this with ⟨z, hz, rfl⟩ | rfl
      · exact ⟨z, rfl, hb z hz⟩
      · exact ⟨0, rfl, by decide⟩
    have hlen : (cutV (ns.map V.int ++ [V.int 0]) none (some many)).length ≤ 64 := by
      refine Nat.le_trans ((List.take_sublist _ _).trans (List.drop_sublist _ _)).length_le ?_
      rw [List.length_append, List.length_map]
      exact Nat.add_le_add_right hl 1
    generalize cutV (ns.map V.int ++ [V.int 0]) none (some many) = xs at h4 hx hlen
    have S4 := s1.trans (s2.trans (s3.trans s4))
    refine w_iListI h4 fun D nD => ?_
    refine lc_list (xs := xs) (fun i H' => Same H4 H' ∧ ∃ ps : List Addr, H' D = some (.lst (ps.map V.ref)) ∧ ps.length = i ∧ ps.Nodup ∧ ∀ q ∈ ps, Well 0 H' q) ⟨same_upd nD, [], upd_same, rfl, List.nodup_nil, fun q hq => by cases hq⟩ (fun i H' _ p => SqL.of (p.1 _ _ h4)) ?_ ?_
    · intro i x H' hi ⟨p1, ps, p2, p3, p4, p5⟩
      obtain ⟨z, rfl, hz⟩ := hx x (List.mem_of_getElem? hi)
      have hil : i < xs.length := (List.getElem?_eq_some_iff.mp hi).1
      repeat walk_at "rd"
      refine ⟨rfl, ?_⟩
      refine w_yes ?_
      refine iT ?_
      repeat walk_at "rd"
      refine ⟨z, rfl, hz, fun p H5 s5 n5 w5 => ?_⟩
      have p2 := s5 _ _ p2
      have k5 : ∀ q ∈ ps, Well 0 H5 q ∧ q ≠ p := fun q hq => ⟨(p5 q hq).same s5, by
        rintro rfl
        obtain ⟨_, e⟩ := (p5 q hq).here
        rw [n5] at e
        cases e⟩
      have put : ∀ q, Well 0 H5 q → Well 0 (upd H5 D (.lst (ps.map V.ref ++ [V.ref p]))) q := fun q hq => by
        have ne := well_ne p2 hq
        obtain ⟨x1, y1, z1, e, d⟩ := hq
        exact ⟨x1, y1, z1, by rw [upd_ne ne]; exact e, d⟩
      refine ⟨_, p2, by rw [List.length_map, p3]; exact Nat.lt_of_lt_of_le (Nat.lt_of_lt_of_le hil hlen) (by decide), same_put (p1.trans s5) nD, ps ++ [p], ?_, ?_, ?_, ?_⟩
      · rw [upd_same, List.map_append]
        rfl
      · rw [List.length_append, p3]
        rfl
      · rw [List.nodup_append]
        refine ⟨p4, by simp, fun q hq b hb => ?_⟩
        simp only [List.mem_cons, List.not_mem_nil, or_false] at hb
        rw [hb]
        exact (k5 q hq).2
      · intro q hq
        rcases List.mem_append.1 hq with h | h
        · exact put q (k5 q h).1
        · simp only [List.mem_cons, List.not_mem_nil, or_false] at h
          rw [h]
          exact put p w5
    · intro H' ⟨p1, ps, p2, p3, p4, p5⟩
      exact q D ps H' (S4.trans p1) ⟨p2, p4, p5⟩
end
end Nu

set_option Elab.async false
set_option linter.all false
set_option maxRecDepth 100000
set_option autoImplicit false
set_option maxHeartbeats 4000000
namespace Nu
open PySem PySem.Spec PyProof.Rows L2 Rd
local macro_rules | `(tactic| walk_at "hp") => `(tactic| first | assumption | (refine same_get ?sm ?_; (case sm => assumption); walk_at "hp"))
local macro_rules | `(tactic| walk_at "rd") => `(tactic| first
  | with_reducible refine w_nx ?_
  | with_reducible refine w_rt ?_
  | with_reducible refine w_bk ?_
  | with_reducible refine w_ct ?_
  | with_reducible refine w_seq ?_
  | with_reducible refine w_next ?_
  | with_reducible refine w_ret ?_
  | with_reducible refine w_ifS ?_
  | with_reducible refine w_asg ?_
  | with_reducible refine w_name ?_
  | with_reducible refine w_par ?_
  | with_reducible refine w_parI ?_
  | with_reducible refine w_ii ?_
  | with_reducible refine w_i1 ?_
  | with_reducible refine w_drop ?_
  | with_reducible refine w_sFld ?_
  | ((with_reducible refine' w_var ?rdh ?_); (case rdh => exact rfl))
  | with_reducible refine w_c ?_
  | with_reducible refine w_op ?_
  | with_reducible refine w_un ?_
  | with_reducible refine w_I0 ?_
  | with_reducible refine w_U ?_
  | with_reducible refine w_bits ?_
  | with_reducible refine w_bitsI ?_
  | with_reducible refine w_tup ?_
  | with_reducible refine w_lst ?_
  | with_reducible refine w_nil ?_
  | with_reducible refine w_cons ?_
  | with_reducible refine w_fld ?_
  | with_reducible refine w_call ?_
  | with_reducible refine w_make ?_
  | with_reducible refine w_gsub ?_
  | with_reducible refine w_int1 ?_
  | with_reducible refine w_intB ?_
  | with_reducible refine w_for ?_
  | with_reducible refine w_rng1 ?_
  | with_reducible refine w_iList ?_
  | with_reducible refine w_iTup ?_
  | with_reducible refine w_makeD ?_
  | with_reducible refine w_nn ?_
  | with_reducible refine w_subB ?_
  | with_reducible refine w_meth ?_
  | with_reducible refine w_cb ?_
  | with_reducible refine w_test ?_
  | with_reducible refine w_B ?_
  | with_reducible refine w_bl ?_
  | with_reducible refine w_andV ?_
  | with_reducible refine w_orV ?_
  | with_reducible refine w_notV ?_
  | with_reducible refine w_and ?_
  | with_reducible refine w_or ?_
  | with_reducible refine w_not ?_
  | with_reducible refine w_if ?_
  | with_reducible refine w_gnil ?_
  | with_reducible refine w_gcons ?_
  | with_reducible refine iT ?_
  | with_reducible refine iF ?_
  | with_reducible refine w_eqI ?_
  | with_reducible refine w_neI ?_
  | with_reducible refine w_eqS ?_
  | with_reducible refine w_eqIS ?_
  | with_reducible refine w_eqSI ?_)

theorem erase_perm {α : Type} : ∀ (l : List α) (i : Nat) (x : α), l[i]? = some x → (x :: l.eraseIdx i).Perm l
  | [], _, _, h => by cases h
  | a :: l, 0, x, h => by cases h; exact .refl _
  | a :: l, i + 1, x, h => (List.Perm.swap a x _).trans ((erase_perm l i x h).cons a)
theorem NL.erase {CF : Addr} {H : Hp} {xs : List L2.V} {ns : List Nm} (h : NL CF H xs ns) (k : Nat) : NL CF H (xs.eraseIdx k) (ns.eraseIdx k) := by
  refine ⟨by rw [List.length_eraseIdx, List.length_eraseIdx, h.len], fun i x e => ?_⟩
  rw [List.getElem?_eraseIdx] at e ⊢
  by_cases c : i < k
  · rw [if_pos c] at e ⊢
    exact h.get _ _ e
  · rw [if_neg c] at e ⊢
    exact h.get _ _ e
theorem NL.snoc {CF : Addr} {H : Hp} {xs : List L2.V} {ns : List Nm} {x : L2.V} {n : Nm} (h : NL CF H xs ns) (hx : NmAt CF H x n) (f : FinN n) : NL CF H (xs ++ [x]) (ns ++ [n]) := by
  refine ⟨by rw [List.length_append, List.length_append, h.len]; rfl, fun i y e => ?_⟩
  have hl := h.len
  by_cases c : i < xs.length
  · rw [List.getElem?_append_left c] at e
    rw [List.getElem?_append_left (by omega)]
    exact h.get _ _ e
  · rw [List.getElem?_append_right (by omega)] at e
    rw [List.getElem?_append_right (by omega), ← hl]
    generalize i - xs.length = j at *
    cases j with
    | zero => cases e; exact ⟨n, rfl, hx, f⟩
    | succ j => cases e
theorem NmAt.othL {CF : Addr} {H H' : Hp} {a : Addr} {x : L2.V} {n : Nm} {ys : List L2.V} (h : NmAt CF H x n) (hp : H a = some (.lst ys)) (o : Oth a H H') : NmAt CF H' x n := by
  cases n with
  | int i => exact h
  | fl f =>
    obtain ⟨b, e, hf, ok⟩ := h
    exact ⟨b, e, hf.othL hp o, ok⟩
theorem NL.othL {CF : Addr} {H H' : Hp} {a : Addr} {xs : List L2.V} {ns : List Nm} {ys : List L2.V} (h : NL CF H xs ns) (hp : H a = some (.lst ys)) (o : Oth a H H') : NL CF H' xs ns := ⟨h.len, fun i x e => let ⟨n, e', k, f⟩ := h.get i x e; ⟨n, e', k.othL hp o, f⟩⟩
theorem NL.othW {CF p : Addr} {H H' : Hp} {xs : List L2.V} {ns : List Nm} {k : Nat} (h : NL CF H xs ns) (o : Oth p H H') (hw : Well k H p) : NL CF H' xs ns := let ⟨_, e⟩ := hw.here; h.othL e o
theorem oth_putN {p l : Addr} {H H' : Hp} {o : HO} (h : Oth p H H') (n : H l = none) : Oth p H (upd H' l o) := fun b u hb e => by
  rw [upd_ne (ne_of_none e n)]
  exact h b u hb e
theorem oth_self {l : Addr} {H : Hp} {o : HO} : Oth l H (upd H l o) := fun b u hb e => by rw [upd_ne hb]; exact e
theorem Well.put {n : Nat} {H : Hp} {p l : Addr} {o : HO} (h : Well n H p) (hl : l ≠ p) : Well n (upd H l o) p := by
  obtain ⟨a, b, c, e, d⟩ := h
  exact ⟨a, b, c, by rw [upd_ne hl.symm]; exact e, d⟩
theorem none_back {H H1 : Hp} {l : Addr} (s : Same H H1) (h : H1 l = none) : H l = none := by
  cases e : H l with
  | none => rfl
  | some o => rw [s _ _ e] at h; cases h
theorem seq_nat {r : Int} {n : Nat} (h0 : 0 ≤ r) (h1 : r < n) : seqIndex? r n = some r.toNat := by
  unfold seqIndex?
  rw [if_neg (show ¬ r < 0 by omega)]
  have : (decide (0 ≤ r) && decide (r < (n : Int))) = true := by rw [decide_eq_true h0, decide_eq_true h1]; rfl
  exact if_pos this
theorem at_last {xs : List L2.V} {y : L2.V} (h : xs[xs.length - 1]? = some y) (hl : 0 < xs.length) : atI xs (-1) = some y := by
  unfold atI ixN
  rw [if_neg (by decide), if_pos (by omega)]
  show xs[((-1 : Int) + xs.length).toNat]? = some y
  rw [show ((-1 : Int) + xs.length).toNat = xs.length - 1 by omega]
  exact h
section
variable {P : Program} {w : World} {K : PySem.W.Frag} {mg : Str → Option Value} {base : Heap} {CF CE CL : Addr}
theorem w_popAt {l : Addr} {xs : List L2.V} {r : Int} {y : L2.V} {H : Hp} {Q : VK} (h : H l = some (.lst xs)) (h0 : 0 ≤ r) (h1 : r < xs.length) (h2 : xs.length ≤ 1000) (hy : xs[r.toNat]? = some y) (q : Q y (upd H l (.lst (xs.eraseIdx r.toNat)))) : rPopAt (.ref l) [.int r] H Q :=
  ⟨l, xs, r, r.toNat, y, rfl, rfl, h, by omega, by omega, seq_nat h0 h1, hy, q⟩
def spMix (CF : Addr) : Sp := fun vs H Q _ => ∃ (p a : Addr) (n : Nat) (xs : List L2.V) (ns : List Nm), vs = [.ref p, .ref a] ∧ Well n H p ∧ n < 900000 ∧ H a = some (.lst xs) ∧ NL CF H xs ns ∧ xs.length ≤ 100 ∧
  ∀ l ys ms H', Oth p H H' → Well (n + 100) H' p → H' l = some (.lst ys) → NL CF H' ys ms → ms.Perm ns → Q (.ref l) H'
theorem sc_law_mixed_up : FnScope ["well", "row", "left", "found"] ["well", "row"] (defScope s_law_mixed_up) := ⟨rfl, rfl, rfl, by decide +kernel, rfl, by decide +kernel, by decide +kernel⟩
theorem ok_mixed_up (T : AllP K mg CF CE CL) (k_law_draw : Kn P w K mg base CX0 1 "_law_draw" ["well", "many"] spDraw) : Kn P w K mg base CX0 2 "_law_mixed_up" ["well", "row"] (spMix CF) := by
  refine T.x_mixed_up.kn fun f fd F => ?_
  refine F.ok sc_law_mixed_up (fun vs H Q E h => ?_) (fun cdv A outer s H vs Q E hr h => ?_)
  · obtain ⟨p, a, n, xs, ns, rfl, _⟩ := h
    rfl
  · obtain ⟨p, a, n, xs, ns, rfl, hw, hn, ha, nl, hl, q⟩ := h
    refine ⟨_, (pss_cons (ps_par (by rfl) sc_law_mixed_up.nd (i := 2) (j := 3) rfl rfl (by decide) rfl rfl (pa_cons (pe_callTy call_list_of (by rfl) T.b_list boot_list (pa_cons (pv 1) pa_nil)) (pa_cons (pe_lst pa_nil) pa_nil)) (by rfl))
      (pss_cons (ps_while PassesOwn.never (pt_cmpR op_gt (pe_callB call_len_seq (by rfl) T.b_len boot_len (pa_cons (pv 2) pa_nil)) pe_int (nomark _))
      (pss_one (ps_expr (pe_bm PySem.F.plainAttrs_list PySem.F.slot_list_append PySem.F.type_list_append mt_append (pv 3) (pa_cons (pe_bm PySem.F.plainAttrs_list PySem.F.slot_list_pop PySem.F.type_list_pop mt_popAt (pv 2) (pa_cons (pk k_law_draw hr (pa_cons (pv 0) (pa_cons (pe_callB call_len_seq (by rfl) T.b_len boot_len (pa_cons (pv 2) pa_nil)) pa_nil))) pa_nil)) pa_nil)))))
      (pss_one (ps_ret (pv 3))))), ?_⟩
    repeat walk_at "rd"
    refine ⟨a, _, rfl, .inl (SqL.of ha), fun L nL => ?_⟩
    have s1 : Same H (upd H L (.lst xs)) := same_upd nL
    have eL := upd_same (H := H) (a := L) (o := .lst xs)
    generalize upd H L (.lst xs) = H1 at s1 eL ⊢
    repeat walk_at "rd"
    refine w_lstI (by show 0 ≤ 1000; decide) fun O H2 s2 nO eO => ?_
    have LO : L ≠ O := ne_of_none eL nO
    obtain ⟨_, hp⟩ := hw.here
    have pL : p ≠ L := ne_of_none hp nL
    have nO : H O = none := none_back s1 nO
    have pO : p ≠ O := ne_of_none hp nO
    have S2 := s1.trans s2
    have eL := s2 _ _ eL
    have w2 := hw.same S2
    have nl := nl.same S2
    repeat walk_at "rd"
    refine w_while (fun m σ' H' => σ' = [some (.ref p), some (.ref a), some (.ref L), some (.ref O)] ∧ ∃ ls nls fs nfs, m = ls.length ∧ H' L = some (.lst ls) ∧ H' O = some (.lst fs) ∧ NL CF H' ls nls ∧ NL CF H' fs nfs ∧ (nfs ++ nls).Perm ns ∧ fs.length + ls.length = xs.length ∧ Well (n + fs.length) H' p ∧ Oth p H H')
      ⟨rfl, xs, ns, [], [], rfl, eL, eO, nl, ⟨rfl, fun i x e => by cases e⟩, .refl _, by show 0 + xs.length = xs.length; omega, w2, Rd.Same.oth S2⟩ ?_
    rintro m σ' H3 ⟨rfl, ls, nls, fs, nfs, rfl, eL3, eO3, nL3, nF3, pm, lens, w3, o3⟩
    repeat walk_at "rd"
    refine w_lenL eL3 ?_
    repeat walk_at "rd"
    refine iD (fun c => ?_) (fun c => ?_)
    · refine w_turn ?_
      repeat walk_at "rd"
      refine w_bm ?_
      repeat walk_at "rd"
      refine ⟨.inl ⟨rfl, fs, SqL.of eO3⟩, ?_⟩
      repeat walk_at "rd"
      refine w_bm ?_
      repeat walk_at "rd"
      refine ⟨.inl ⟨rfl, ls, SqL.of eL3⟩, ?_⟩
      repeat walk_at "rd"
      refine w_lenL eL3 ?_
      repeat walk_at "rd"
      refine u_draw w3 (by omega) (by omega) (Int.le_trans (bits_mono (by omega) (show (ls.length : Int) ≤ 100 by omega)) (by decide)) fun r H4 o4 w4 r0 r1 => ?_
      have eL4 := o4 _ _ (Ne.symm pL) eL3
      have eO4 := o4 _ _ (Ne.symm pO) eO3
      have nL4 := nL3.othW o4 w3
      have nF4 := nF3.othW o4 w3
      have hrl : r.toNat < ls.length := by omega
      have hy := List.getElem?_eq_getElem hrl
      obtain ⟨nm, hnm, ky, fy⟩ := nL4.get _ _ hy
      repeat walk_at "rd"
      refine w_popAt eL4 r0 r1 (by omega) hy ?_
      have o5 : Oth L H4 (upd H4 L (.lst (ls.eraseIdx r.toNat))) := oth_self
      have eL5 := upd_same (H := H4) (a := L) (o := .lst (ls.eraseIdx r.toNat))
      have eO5 := o5 _ _ (Ne.symm LO) eO4
      have nL5 := (nL4.erase r.toNat).othL eL4 o5
      have nF5 := nF4.othL eL4 o5
      have ky5 := ky.othL eL4 o5
      have w5 := w4.put (o := .lst (ls.eraseIdx r.toNat)) (Ne.symm pL)
      have O5 := oth_putN (o := .lst (ls.eraseIdx r.toNat)) (o3.trans o4) nL
      generalize upd H4 L (.lst (ls.eraseIdx r.toNat)) = H5 at *
      repeat walk_at "rd"
      refine w_app eO5 (lt_line (n := 101) (by omega) (by decide)) ?_
      have o6 : Oth O H5 (upd H5 O (.lst (fs ++ [ls[r.toNat]]))) := oth_self
      have eO6 := upd_same (H := H5) (a := O) (o := .lst (fs ++ [ls[r.toNat]]))
      have eL6 := o6 _ _ LO eL5
      have nL6 := nL5.othL eO5 o6
      have nF6 := (nF5.snoc ky5 fy).othL eO5 o6
      have w6 := w5.put (o := .lst (fs ++ [ls[r.toNat]])) (Ne.symm pO)
      have O6 := oth_putN (o := .lst (fs ++ [ls[r.toNat]])) O5 nO
      generalize upd H5 O (.lst (fs ++ [ls[r.toNat]])) = H6 at *
      repeat walk_at "rd"
      have le := List.length_eraseIdx_of_lt hrl
      refine ⟨_, ?_, rfl, _, _, _, _, rfl, eL6, eO6, nL6, nF6, ?_, ?_, ?_, O6⟩
      · rw [le]; omega
      · have p1 := (erase_perm nls r.toNat nm hnm).append_left nfs
        rw [List.append_assoc]
        exact p1.trans pm
      · rw [List.length_append, le]
        show fs.length + 1 + (ls.length - 1) = xs.length
        omega
      · rw [List.length_append]
        exact w6
    · have l0 : ls.length = 0 := by omega
      have : ls = [] := List.length_eq_zero_iff.1 l0
      subst this
      have n0 : nls = [] := List.length_eq_zero_iff.1 (by rw [← nL3.len]; rfl)
      subst n0
      rw [List.append_nil] at pm
      repeat walk_at "rd"
      exact q O fs nfs H3 o3 (w3.mono (by omega)) eO3 nF3 pm
def spNums (CF : Addr) : Sp := fun vs H Q _ => ∃ (p : Addr) (n : Nat), vs = [.ref p] ∧ Well n H p ∧ n < 800000 ∧ ∀ l xs ns H', Oth p H H' → Well (n + 300) H' p → H l = none → H' l = some (.lst xs) → NL CF H' xs ns → xs.length ≤ 9 → Q (.ref l) H'
theorem u_flt {p : Addr} {n : Nat} {H : Hp} {Q : VK} {E : XK} (hw : Well n H p) (hn : n < 900000) (q : ∀ x s t pw H', Oth p H H' → Well (n + 20) H' p → FlAt CF H' x (.fin s t pw) → (Fl.fin s t pw).ok → Q (.ref x) H') : spFlt CF ([V.ref p] ++ []) H Q E := ⟨p, n, rfl, hw, hn, q⟩
theorem opp_arg {s t p : Int} (h : (Fl.fin s t p).ok) : Arg (0 - s) (.int t) p (.fin (0 - s) t p) := by
  have hs : 0 - s = 1 ∨ 0 - s = -1 := neg_pm h.1
  exact negM_arg (f := .fin s t p) h (fun z => nomatch z)
theorem neg_fin {s t p : Int} (h : (Fl.fin s t p).ok) : (Fl.fin (0 - s) t p).ok := ⟨neg_pm h.1, h.2⟩
theorem sc_law_numbers : FnScope ["well", "found", "turn", "kind"] ["well"] (defScope s_law_numbers) := ⟨rfl, rfl, rfl, by decide +kernel, rfl, by decide +kernel, by decide +kernel⟩
theorem ok_numbers (T : AllP K mg CF CE CL) (k_law_draw : Kn P w K mg base CX0 1 "_law_draw" ["well", "many"] spDraw) (k_law_float : Kn P w K mg base CX0 4 "_law_float" ["well"] (spFlt CF)) (k_Float_init : KnC P w K mg base CX0 2 "Float" CF ["self", "sign", "top", "power"] (spInit CF)) : Kn P w K mg base CX0 5 "_law_numbers" ["well"] (spNums CF) := by
  refine T.x_numbers.kn fun f fd F => ?_
  refine F.ok sc_law_numbers (fun vs H Q E h => ?_) (fun cdv A outer s H vs Q E hr h => ?_)
  · obtain ⟨p, n, rfl, _⟩ := h
    rfl
  · obtain ⟨p, n, rfl, hw, hn, q⟩ := h
    refine ⟨_, (pss_cons (ps_set (i := 1) sc_law_numbers.nd rfl (Or.inl rfl) (pe_lst pa_nil))
      (pss_cons (ps_for PassesOwn.never rfl (pi_range1 rfl T.b_range (pa_cons (pk k_law_draw hr (pa_cons (pv 0) (pa_cons pe_int pa_nil))) pa_nil)) (pg_name (i := 2) sc_law_numbers.nd rfl (Or.inl rfl))
      (pss_cons (ps_set (i := 3) sc_law_numbers.nd rfl (Or.inl rfl) (pk k_law_draw hr (pa_cons (pv 0) (pa_cons pe_int pa_nil))))
      (pss_one (ps_if (pt_cmpR op_eq (pv 3) pe_int (nomark _)) (pss_one (ps_expr (pe_bm PySem.F.plainAttrs_list PySem.F.slot_list_append PySem.F.type_list_append mt_append (pv 1) (pa_cons (pe_op op_sub (pk k_law_draw hr (pa_cons (pv 0) (pa_cons (pe_op op_shlW pe_int pe_int) pa_nil))) (pe_op op_shlW pe_int pe_int)) pa_nil)))) (pss_one (ps_if (PW.pt (pw_and (pt_cmpR op_eq (pv 3) pe_int (nomark _)) (pw_and (pt_cmpR op_gt (pe_callB call_len_seq (by rfl) T.b_len boot_len (pa_cons (pv 1) pa_nil)) pe_int (nomark _)) (pw_and1 (pt_val (pe_callB call_isi (by rfl) T.b_isinstance boot_isinstance (pa_cons (pe_ix ix_list (pv 1) (pe_un un_neg pe_int) (fun _ _ => rfl)) (pa_cons (pg "Float" T.g_Float (rref _)) pa_nil)))))))) (pss_one (ps_expr (pe_bm PySem.F.plainAttrs_list PySem.F.slot_list_append PySem.F.type_list_append mt_append (pv 1) (pa_cons (pkC k_Float_init hr (pa_cons (pe_op op_sub pe_int (pe_fld (pe_ix ix_list (pv 1) (pe_un un_neg pe_int) (fun _ _ => rfl)) rfl)) (pa_cons (pe_fld (pe_ix ix_list (pv 1) (pe_un un_neg pe_int) (fun _ _ => rfl)) rfl) (pa_cons (pe_fld (pe_ix ix_list (pv 1) (pe_un un_neg pe_int) (fun _ _ => rfl)) rfl) pa_nil)))) pa_nil)))) (pss_one (ps_expr (pe_bm PySem.F.plainAttrs_list PySem.F.slot_list_append PySem.F.type_list_append mt_append (pv 1) (pa_cons (pk k_law_float hr (pa_cons (pv 0) pa_nil)) pa_nil))))))))))
      (pss_one (ps_ret (pv 1))))), ?_⟩
    have e60 : (1 : Int) * 2 ^ (60 : Int).toNat = 1152921504606846976 := by decide
    have e59 : (1 : Int) * 2 ^ (59 : Int).toNat = 576460752303423488 := by decide
    repeat walk_at "rd"
    refine w_lstI (by show 0 ≤ 1000; decide) fun O H1 s1 nO eO => ?_
    obtain ⟨_, hp⟩ := hw.here
    have pO : p ≠ O := ne_of_none hp nO
    have w1 := hw.same s1
    repeat walk_at "rd"
    refine u_draw w1 (by omega) (by decide) (by decide) fun r H2 o2 w2 r0 r1 => ?_
    have eO2 := o2 _ _ (Ne.symm pO) eO
    have O2 : Oth p H H2 := (Rd.Same.oth s1).trans o2
    repeat walk_at "rd"
    refine ⟨by omega, by omega, ?_⟩
    refine for_range (lo := 0) (fun k σ' H' => ∃ u v xs ns, σ' = [some (.ref p), some (.ref O), u, v] ∧ H' O = some (.lst xs) ∧ NL CF H' xs ns ∧ xs.length = k ∧ Well (n + 1 + k * 25) H' p ∧ Oth p H H') ⟨_, _, [], [], rfl, eO2, ⟨rfl, fun i x e => by cases e⟩, rfl, w2, O2⟩ ?_ ?_
    · rintro k σ' H3 hk ⟨u, v, xs, ns, rfl, eO3, nl3, lx, w3, o3⟩
      have k9 : k < 9 := by omega
      have fin : ∀ (H' : Hp) (x : L2.V) (m : Nm), H' O = some (.lst xs) → NL CF H' xs ns → NmAt CF H' x m → FinN m → Well (n + 1 + (k + 1) * 25) H' p → Oth p H H' → ∀ u v, (∃ u' v' xs' ns', [some (L2.V.ref p), some (.ref O), u, v] = [some (.ref p), some (.ref O), u', v'] ∧ (upd H' O (.lst (xs ++ [x]))) O = some (.lst xs') ∧ NL CF (upd H' O (.lst (xs ++ [x]))) xs' ns' ∧ xs'.length = k + 1 ∧ Well (n + 1 + (k + 1) * 25) (upd H' O (.lst (xs ++ [x]))) p ∧ Oth p H (upd H' O (.lst (xs ++ [x])))) := fun H' x m e nl kx fx w o u v =>
        ⟨u, v, _, _, rfl, upd_same, (nl.snoc kx fx).othL e oth_self, by rw [List.length_append, lx]; rfl, w.put (Ne.symm pO), oth_putN o nO⟩
      repeat walk_at "rd"
      refine u_draw w3 (by omega) (by decide) (by decide) fun kd H4 o4 w4 kl ku => ?_
      have eO4 := o4 _ _ (Ne.symm pO) eO3
      have nl4 := nl3.othW o4 w3
      have O4 := o3.trans o4
      repeat walk_at "rd"
      refine iD (fun _ => ?_) (fun _ => ?_)
      · repeat walk_at "rd"
        refine w_bm ?_
        repeat walk_at "rd"
        refine ⟨.inl ⟨rfl, xs, SqL.of eO4⟩, ?_⟩
        repeat walk_at "rd"
        refine w_I (cshl (i := 1) (j := 60) (by decide) (by decide) (by decide)) ?_
        rw [e60]
        repeat walk_at "rd"
        refine u_draw w4 (by omega) (by decide) (by decide) fun d H5 o5 w5 dl du => ?_
        have eO5 := o5 _ _ (Ne.symm pO) eO4
        repeat walk_at "rd"
        refine w_I (cshl (i := 1) (j := 59) (by decide) (by decide) (by decide)) ?_
        rw [e59]
        repeat walk_at "rd"
        refine w_app eO5 (lt_line (n := 101) (by omega) (by decide)) ?_
        repeat walk_at "rd"
        have bd : bits (d - 576460752303423488) ≤ 70 := by
          rw [← bits_abs]
          have := (bits_lt_pow (k := 60) (abs_nn (d - 576460752303423488))).2 (by rw [show (2 : Int) ^ 60 = 1152921504606846976 by decide]; split <;> omega)
          omega
        exact fin H5 _ (.int (d - 576460752303423488)) eO5 (nl4.othW o5 w4) ⟨rfl, bd⟩ bd (w5.mono (by omega)) (O4.trans o5) _ _
      · repeat walk_at "rd"
        refine iD (fun _ => ?_) (fun _ => ?_)
        · repeat walk_at "rd"
          refine w_lenL eO4 ?_
          repeat walk_at "rd"
          refine iD (fun c => ?_) (fun c => ?_)
          · obtain ⟨y, hy⟩ : ∃ y, xs[xs.length - 1]? = some y := ⟨_, List.getElem?_eq_getElem (by omega)⟩
            have hat := at_last hy (by omega)
            obtain ⟨m, hm, ky, fy⟩ := nl4.get _ _ hy
            obtain ⟨pl, fl, ⟨t, ty, i1, i2, i3, i4⟩, _, ef⟩ := ky.says T.toAll
            repeat walk_at "rd"
            refine w_ixL eO4 hat ?_
            repeat walk_at "rd"
            refine w_isi (.own CF) ty i4 ?_
            rw [ef]
            cases m with
            | int i =>
              repeat walk_at "rd"
              refine w_bm ?_
              repeat walk_at "rd"
              refine ⟨.inl ⟨rfl, xs, SqL.of eO4⟩, ?_⟩
              repeat walk_at "rd"
              refine u_flt w4 (by omega) fun x s t pw H5 o5 w5 k5 ok5 => ?_
              have eO5 := o5 _ _ (Ne.symm pO) eO4
              repeat walk_at "rd"
              refine w_app eO5 (lt_line (n := 101) (by omega) (by decide)) ?_
              repeat walk_at "rd"
              exact fin H5 _ (.fl (.fin s t pw)) eO5 (nl4.othW o5 w4) (nm_f k5 ok5) (fin_n ok5) (w5.mono (by omega)) (O4.trans o5) _ _
            | fl f =>
              obtain ⟨s, t, pw, rfl, ok⟩ := fy.fl
              obtain ⟨b, rfl, hf, _⟩ := ky
              repeat walk_at "rd"
              obtain ⟨dx, hb⟩ := id hf
              have hb : H4 b = some (.ins CF dx (flds s (.int t) pw)) := hb
              refine w_bm ?_
              repeat walk_at "rd"
              refine ⟨.inl ⟨rfl, xs, SqL.of eO4⟩, ?_⟩
              repeat walk_at "rd"
              refine w_ixL eO4 hat ?_
              repeat walk_at "rd"
              refine w_fldI hb T.l_Float T.n_sign (flds_s _ _ _) ?_
              repeat walk_at "rd"
              refine w_ixL eO4 hat ?_
              repeat walk_at "rd"
              refine w_fldI hb T.l_Float T.n_top (flds_t _ _ _) ?_
              repeat walk_at "rd"
              refine w_ixL eO4 hat ?_
              repeat walk_at "rd"
              refine w_fldI hb T.l_Float T.n_power (flds_p _ _ _) ?_
              repeat walk_at "rd"
              refine u_Float (opp_arg ok) fun x H5 s5 n5 k5 => ?_
              have eO5 := s5 _ _ eO4
              repeat walk_at "rd"
              refine w_app eO5 (lt_line (n := 101) (by omega) (by decide)) ?_
              repeat walk_at "rd"
              exact fin H5 _ (.fl (.fin (0 - s) t pw)) eO5 (nl4.same s5) (nm_f k5 (neg_fin ok)) (fin_n (neg_fin ok)) ((w4.same s5).mono (by omega)) (O4.same s5) _ _
          · repeat walk_at "rd"
            refine w_bm ?_
            repeat walk_at "rd"
            refine ⟨.inl ⟨rfl, xs, SqL.of eO4⟩, ?_⟩
            repeat walk_at "rd"
            refine u_flt w4 (by omega) fun x s t pw H5 o5 w5 k5 ok5 => ?_
            have eO5 := o5 _ _ (Ne.symm pO) eO4
            repeat walk_at "rd"
            refine w_app eO5 (lt_line (n := 101) (by omega) (by decide)) ?_
            repeat walk_at "rd"
            exact fin H5 _ (.fl (.fin s t pw)) eO5 (nl4.othW o5 w4) (nm_f k5 ok5) (fin_n ok5) (w5.mono (by omega)) (O4.trans o5) _ _
        · repeat walk_at "rd"
          refine w_bm ?_
          repeat walk_at "rd"
          refine ⟨.inl ⟨rfl, xs, SqL.of eO4⟩, ?_⟩
          repeat walk_at "rd"
          refine u_flt w4 (by omega) fun x s t pw H5 o5 w5 k5 ok5 => ?_
          have eO5 := o5 _ _ (Ne.symm pO) eO4
          repeat walk_at "rd"
          refine w_app eO5 (lt_line (n := 101) (by omega) (by decide)) ?_
          repeat walk_at "rd"
          exact fin H5 _ (.fl (.fin s t pw)) eO5 (nl4.othW o5 w4) (nm_f k5 ok5) (fin_n ok5) (w5.mono (by omega)) (O4.trans o5) _ _
    · rintro σ' H3 ⟨u, v, xs, ns, rfl, eO3, nl3, lx, w3, o3⟩
      repeat walk_at "rd"
      exact q O xs ns H3 o3 (w3.mono (by omega)) nO eO3 nl3 (by omega)
end
end Nu

set_option Elab.async false
set_option linter.all false
set_option maxRecDepth 100000
set_option autoImplicit false
set_option maxHeartbeats 4000000
namespace Nu
open PySem PySem.Spec PyProof.Rows L2 Rd
local macro_rules | `(tactic| walk_at "hp") => `(tactic| first | assumption | (refine same_get ?sm ?_; (case sm => assumption); walk_at "hp"))
local macro_rules | `(tactic| walk_at "rd") => `(tactic| first
  | with_reducible refine w_nx ?_
  | with_reducible refine w_rt ?_
  | with_reducible refine w_bk ?_
  | with_reducible refine w_ct ?_
  | with_reducible refine w_seq ?_
  | with_reducible refine w_next ?_
  | with_reducible refine w_ret ?_
  | with_reducible refine w_ifS ?_
  | with_reducible refine w_asg ?_
  | with_reducible refine w_name ?_
  | with_reducible refine w_par ?_
  | with_reducible refine w_parI ?_
  | with_reducible refine w_ii ?_
  | with_reducible refine w_i1 ?_
  | with_reducible refine w_drop ?_
  | with_reducible refine w_sFld ?_
  | ((with_reducible refine' w_var ?rdh ?_); (case rdh => exact rfl))
  | with_reducible refine w_c ?_
  | with_reducible refine w_op ?_
  | with_reducible refine w_un ?_
  | with_reducible refine w_I0 ?_
  | with_reducible refine w_U ?_
  | with_reducible refine w_bits ?_
  | with_reducible refine w_bitsI ?_
  | with_reducible refine w_tup ?_
  | with_reducible refine w_lst ?_
  | with_reducible refine w_nil ?_
  | with_reducible refine w_cons ?_
  | with_reducible refine w_fld ?_
  | with_reducible refine w_call ?_
  | with_reducible refine w_make ?_
  | with_reducible refine w_gsub ?_
  | with_reducible refine w_int1 ?_
  | with_reducible refine w_intB ?_
  | with_reducible refine w_for ?_
  | with_reducible refine w_rng1 ?_
  | with_reducible refine w_iList ?_
  | with_reducible refine w_iTup ?_
  | with_reducible refine w_makeD ?_
  | with_reducible refine w_nn ?_
  | with_reducible refine w_subB ?_
  | with_reducible refine w_meth ?_
  | with_reducible refine w_cb ?_
  | with_reducible refine w_test ?_
  | with_reducible refine w_B ?_
  | with_reducible refine w_bl ?_
  | with_reducible refine w_andV ?_
  | with_reducible refine w_orV ?_
  | with_reducible refine w_notV ?_
  | with_reducible refine w_and ?_
  | with_reducible refine w_or ?_
  | with_reducible refine w_not ?_
  | with_reducible refine w_if ?_
  | with_reducible refine w_gnil ?_
  | with_reducible refine w_gcons ?_
  | with_reducible refine iT ?_
  | with_reducible refine iF ?_
  | with_reducible refine w_eqI ?_
  | with_reducible refine w_neI ?_
  | with_reducible refine w_eqS ?_
  | with_reducible refine w_eqIS ?_
  | with_reducible refine w_eqSI ?_)

section
variable {P : Program} {w : World} {K : PySem.W.Frag} {mg : Str → Option Value} {base : Heap} {CF CE CL : Addr}
theorem u_rto {a x : Addr} {n d s t p : Int} {H : Hp} {Q : VK} {E : XK} (ha : H a = some (.tup [.int n, .int d])) (hd : 0 < d) (hg : Int.gcd n d = 1) (bn : bits n ≤ 7000) (bd : bits d ≤ 7000) (hx : FlAt CF H x (.fin s t p)) (ok : (Fl.fin s t p).ok)
    (q : ∀ H', Same H H' → Q (.bl (irM n d (rkM (.fin s t p)))) H') : spRto CF ([V.ref a, V.ref x] ++ []) H Q E := ⟨a, x, n, d, s, t, p, rfl, ha, hd, hg, bn, bd, hx, ok, q⟩
theorem u_part {x : L2.V} {H : Hp} {Q : VK} {E : XK} (h : BadS CF H x) (q : ∀ H', Same H H' → Q (.str "numbers") H') : spPart CF ([x] ++ []) H Q E := ⟨x, rfl, h, q⟩
theorem u_sum {a : Addr} {xs : List L2.V} {ns : List Nm} {H : Hp} {Q : VK} {E : XK} (h : H a = some (.lst xs)) (n : NL CF H xs ns) (l : xs.length ≤ 1000) (q : ∀ x H', Same H H' → FlAt CF H' x (sumM ns) → Q (.ref x) H') : spSum CF ([V.ref a] ++ []) H Q E := ⟨a, xs, ns, rfl, h, n, l, q⟩
theorem drop_mem {α : Type} {xs : List α} {i : Nat} {x y : α} (hn : xs.Nodup) (hx : xs[i]? = some x) (hy : y ∈ xs.drop (i + 1)) : y ≠ x := by
  rintro rfl
  obtain ⟨j, hj⟩ := List.mem_iff_getElem?.1 hy
  rw [List.getElem?_drop] at hj
  obtain ⟨h1, e1⟩ := List.getElem?_eq_some_iff.1 hx
  obtain ⟨h2, e2⟩ := List.getElem?_eq_some_iff.1 hj
  exact (List.pairwise_iff_getElem.1 hn) i (i + 1 + j) h1 h2 (by omega) (e1.trans e2.symm)
theorem nl0 {H : Hp} : NL CF H [] [] := ⟨rfl, fun i x e => by cases e⟩
def spLaw (K : PySem.W.Frag) : Sp := fun vs H Q _ => ∃ (a : Addr) (ns : List Int), vs = [.ref a] ∧ SqL K H a (ns.map V.int) ∧ ns.length ≤ 63 ∧ (∀ z ∈ ns, bits z ≤ 1048576) ∧ ∀ H', Q (.bl true) H'
theorem sc_law : FnScope ["script", "well", "turn", "numbers", "told", "due", "one", "other", "low", "odd", "thing"] ["script"] (defScope s_law) := ⟨rfl, rfl, rfl, by decide +kernel, rfl, by decide +kernel, by decide +kernel⟩
theorem ok_law (T : AllP K mg CF CE CL) (k_law_wells : Kn P w K mg base CX0 2 "_law_wells" ["script", "many"] (spWells K)) (k_law_float : Kn P w K mg base CX0 4 "_law_float" ["well"] (spFlt CF)) (k_law_numbers : Kn P w K mg base CX0 5 "_law_numbers" ["well"] (spNums CF))
    (k_exact_sum : Kn P w K mg base CX0 6 "exact_sum" ["numbers"] (spSum CF)) (k_law_sum : Kn P w K mg base CX0 2 "_law_sum" ["numbers"] (spLSum CF)) (k_Float_is_finite : KnM P w K mg base CX0 1 CF "is_finite" ["self"] (spFinite CF)) (k_is_rounded_to : Kn P w K mg base CX0 8 "is_rounded_to" ["fraction", "number"] (spRto CF))
    (k_law_mixed_up : Kn P w K mg base CX0 2 "_law_mixed_up" ["well", "row"] (spMix CF)) (k_Float_eq : KnM P w K mg base CX0 1 CF "__eq__" ["self", "other"] (spFEq CF)) (k_arith : Kn P w K mg base CX0 8 "arith" ["word", "one", "other"] (spAri CF)) (k_law_are_parts_right : Kn P w K mg base CX0 9 "_law_are_parts_right" ["one", "other"] (spParts CF))
    (k_law_part : Kn P w K mg base CX0 7 "_law_part" ["thing"] (spPart CF)) (k_Float_init : KnC P w K mg base CX0 2 "Float" CF ["self", "sign", "top", "power"] (spInit CF))
    {f : Addr} {fd : FuncData} (F : Fun K "law" "law" s_law f fd) : FnOk P w K mg base CX0 12 f fd ["script"] (spLaw K) := by
  refine F.ok sc_law (fun vs H Q E h => ?_) (fun cdv A outer s H vs Q E hr h => ?_)
  · obtain ⟨a, ns, rfl, _⟩ := h
    rfl
  · obtain ⟨a, ns, rfl, hS, hl, hb, q⟩ := h
    refine ⟨_, (C8.pss_cut (ps_for PassesOwn.never rfl (pi_list (pk k_law_wells hr (pa_cons (pv 0) (pa_cons pe_int pa_nil)))) (pg_name (i := 1) sc_law.nd rfl (Or.inl rfl))
      (pss_one (ps_for PassesOwn.never rfl (pi_range1 rfl T.b_range (pa_cons pe_int pa_nil)) (pg_name (i := 2) sc_law.nd rfl (Or.inl rfl))
      (pss_cons (ps_set (i := 3) sc_law.nd rfl (Or.inl rfl) (pk k_law_numbers hr (pa_cons (pv 1) pa_nil)))
      (pss_cons (ps_par (by rfl) sc_law.nd (i := 4) (j := 5) rfl rfl (by decide) rfl rfl (pa_cons (pk k_exact_sum hr (pa_cons (pv 3) pa_nil)) (pa_cons (pk k_law_sum hr (pa_cons (pv 3) pa_nil)) pa_nil)) (by rfl))
      (C8.pss_cut (ps_if (PW.pt (pw_or (PW.pt (pw_and (pt_val (pkM0 k_Float_is_finite T.l_Float hr (pv 4) rfl)) (pw_and1 (pt_not (pt_val (pk k_is_rounded_to hr (pa_cons (pv 5) (pa_cons (pv 4) pa_nil)))))))) (pw_or1 (pt_cmpR (op_neOwn k_Float_eq T.q_Float hr) (pk k_exact_sum hr (pa_cons (pk k_law_mixed_up hr (pa_cons (pv 1) (pa_cons (pv 3) pa_nil))) pa_nil)) (pv 4) (nomark _))))) (pss_one (ps_ret pe_bl)) pss_nil)
      (pss_cons (ps_par (by rfl) sc_law.nd (i := 6) (j := 7) rfl rfl (by decide) rfl rfl (pa_cons (pk k_law_float hr (pa_cons (pv 1) pa_nil)) (pa_cons (pk k_law_float hr (pa_cons (pv 1) pa_nil)) pa_nil)) (by rfl))
      (pss_cons (ps_if (PW.pt (pw_or (pt_cmpR (op_neOwn k_Float_eq T.q_Float hr) (pk k_exact_sum hr (pa_cons (pe_lst (pa_cons (pv 6) (pa_cons (pv 7) pa_nil))) pa_nil)) (pk k_arith hr (pa_cons pe_str (pa_cons (pv 6) (pa_cons (pv 7) pa_nil)))) (nomark _)) (pw_or1 (pt_not (pt_val (pk k_law_are_parts_right hr (pa_cons (pv 6) (pa_cons (pv 7) pa_nil)))))))) (pss_one (ps_ret pe_bl)) pss_nil)
      (pss_one (ps_if (PW.pt (pw_or (pt_cmpR (op_neOwn k_Float_eq T.q_Float hr) (pk k_exact_sum hr (pa_cons (pe_lst (pa_cons (pv 6) pa_nil)) pa_nil)) (pv 6) (nomark _)) (pw_or1 (pt_cmpR op_ne (pe_fld (pk k_exact_sum hr (pa_cons (pe_lst (pa_cons (pv 6) (pa_cons (pkC k_Float_init hr (pa_cons (pe_op op_sub pe_int (pe_fld (pv 6) rfl)) (pa_cons (pe_fld (pv 6) rfl) (pa_cons (pe_fld (pv 6) rfl) pa_nil)))) pa_nil))) pa_nil)) rfl) pe_int (nomark _))))) (pss_one (ps_ret pe_bl)) pss_nil))))))))))
      (pss_cons (ps_set (i := 8) sc_law.nd rfl (Or.inl rfl) (pkC k_Float_init hr (pa_cons (pe_op op_sub pe_int pe_int) (pa_cons pe_int (pa_cons pe_int pa_nil)))))
      (C8.pss_cut (ps_if (PW.pt (pw_or (pt_cmpR (op_neOwn k_Float_eq T.q_Float hr) (pk k_exact_sum hr (pa_cons (pe_lst (pa_cons (pv 8) (pa_cons (pv 8) pa_nil))) pa_nil)) (pv 8) (nomark _)) (pw_or (pt_cmpR (op_neOwn k_Float_eq T.q_Float hr) (pk k_exact_sum hr (pa_cons (pe_lst pa_nil) pa_nil)) (pkC k_Float_init hr (pa_cons pe_int (pa_cons pe_int (pa_cons pe_int pa_nil)))) (nomark _)) (pw_or1 (pt_cmpR (op_neOwn k_Float_eq T.q_Float hr) (pk k_exact_sum hr (pa_cons (pe_lst (pa_cons (pv 8) (pa_cons pe_int pa_nil))) pa_nil)) (pkC k_Float_init hr (pa_cons pe_int (pa_cons pe_int (pa_cons pe_int pa_nil)))) (nomark _)))))) (pss_one (ps_ret pe_bl)) pss_nil)
      (C8.pss_cut (ps_set (i := 9) sc_law.nd rfl (Or.inl rfl) (pe_lst (pa_cons pe_non (pa_cons (pe_tup (pa_cons pe_int pa_nil)) (pa_cons (pe_lst (pa_cons (pkC k_Float_init hr (pa_cons pe_int (pa_cons pe_str (pa_cons pe_int pa_nil)))) pa_nil)) (pa_cons (pe_lst (pa_cons (pkC k_Float_init hr (pa_cons pe_int (pa_cons pe_str (pa_cons pe_int pa_nil)))) pa_nil)) (pa_cons (pe_lst (pa_cons pe_bl pa_nil)) (pa_cons (pe_lst (pa_cons pe_str pa_nil)) (pa_cons pe_int pa_nil)))))))))
      (pss_one (ps_ret (pe_cmpR (op_eqD hr.units) (pe_lc (own := [("thing", 10)]) (g := (gName 10)) (tt := tYes) rfl sc_law.nd (pi_list (pv 9)) (blkOk_by (N := ["script", "well", "turn", "numbers", "told", "due", "one", "other", "low", "odd", "thing"]) (sc := defScope s_law) (by decide +kernel)) (fun _ _ _ _ _ => (pg_name (i := 10) sc_law.nd rfl (Or.inl rfl))) (fun _ _ _ _ _ => pts_nil) (fun _ _ _ _ _ => (pk k_law_part hr (pa_cons (pv 10) pa_nil)))) (pe_op op_rep (pe_lst (pa_cons pe_str pa_nil)) (pe_callB call_len_seq (by rfl) T.b_len boot_len (pa_cons (pv 9) pa_nil))) (nomark _)))))))), ?_⟩
    refine w_cut (Mid := fun σ' H' => ∃ u1 u2 u3 u4 u5 u6 u7 u8 u9 u10, σ' = [some (.ref a), u1, u2, u3, u4, u5, u6, u7, u8, u9, u10]) ?_ ?_
    · repeat walk_at "rd"
      refine ⟨a, ns, 5, rfl, hS, hl, hb, fun L ps H1 s1 w1 => ?_⟩
      obtain ⟨hL, nd, hw⟩ := w1
      refine w_iListI hL ?_
      clear hS hl hb
      refine for_list (xs := ps.map V.ref) (fun i σ H' => ∃ u1 u2 u3 u4 u5 u6 u7 u8 u9 u10, σ = [some (.ref a), u1, u2, u3, u4, u5, u6, u7, u8, u9, u10] ∧ H' L = some (.lst (ps.map V.ref)) ∧ ∀ q ∈ ps.drop i, Well 0 H' q) ⟨_, _, _, _, _, _, _, _, _, _, rfl, hL, hw⟩ (fun i σ H' _ ⟨_, _, _, _, _, _, _, _, _, _, _, h, _⟩ => SqL.of h) ?_ ?_
      · rintro i x σ H2 hi ⟨u1, u2, u3, u4, u5, u6, u7, u8, u9, u10, rfl, hL2, hw2⟩
        obtain ⟨p, hp, rfl⟩ : ∃ p, ps[i]? = some p ∧ x = .ref p := by
          rw [List.getElem?_map] at hi
          cases e : ps[i]? with
          | none => rw [e] at hi; cases hi
          | some p => rw [e] at hi; exact ⟨p, rfl, (Option.some.inj hi).symm⟩
        have hil : i < ps.length := (List.getElem?_eq_some_iff.mp hp).1
        have dr : ps.drop i = p :: ps.drop (i + 1) := by
          rw [List.drop_eq_getElem_cons hil]
          congr 1
          exact (List.getElem?_eq_some_iff.mp hp).2
        rw [dr] at hw2
        have wp := hw2 p (by simp)
        have wo : ∀ q ∈ ps.drop (i + 1), Well 0 H2 q ∧ q ≠ p := fun q hq => ⟨hw2 q (by simp [hq]), drop_mem nd hp hq⟩
        have neL : L ≠ p := (well_ne hL2 wp).symm
        repeat walk_at "rd"
        refine ⟨by decide, by decide, ?_⟩
        refine for_range (lo := 0) (fun k σ H' => ∃ u2 u3 u4 u5 u6 u7 u8 u9 u10, σ = [some (.ref a), some (.ref p), u2, u3, u4, u5, u6, u7, u8, u9, u10] ∧ H' L = some (.lst (ps.map V.ref)) ∧ Well (k * 1000) H' p ∧ ∀ q ∈ ps.drop (i + 1), Well 0 H' q ∧ q ≠ p) ⟨_, _, _, _, _, _, _, _, _, rfl, hL2, wp, wo⟩ ?_ ?_
        · rintro k σ H3 hk ⟨v2, v3, v4, v5, v6, v7, v8, v9, v10, rfl, hL3, w3, wo3⟩
          have hk : k < 3 := hk
          have wsame : ∀ {H4 H5 : Hp}, (∀ q ∈ ps.drop (i + 1), Well 0 H4 q ∧ q ≠ p) → Same H4 H5 → ∀ q ∈ ps.drop (i + 1), Well 0 H5 q ∧ q ≠ p := fun h s q hq => ⟨(h q hq).1.same s, (h q hq).2⟩
          have woth : ∀ {H4 H5 : Hp}, (∀ q ∈ ps.drop (i + 1), Well 0 H4 q ∧ q ≠ p) → Oth p H4 H5 → ∀ q ∈ ps.drop (i + 1), Well 0 H5 q ∧ q ≠ p := fun h o q hq => by
            obtain ⟨⟨x1, y1, z1, e, d⟩, ne⟩ := h q hq
            exact ⟨⟨x1, y1, z1, o _ _ ne e, d⟩, ne⟩
          repeat walk_at "rd"
          refine ⟨p, _, rfl, w3, by omega, fun Ln xs ns H4 o4 w4 nLn eLn nl hl => ?_⟩
          have hL4 := o4 _ _ neL hL3
          have wo4 := woth wo3 o4
          repeat walk_at "rd"
          refine u_sum eLn nl (by omega) fun tt H5 s5 kt => ?_
          repeat walk_at "rd"
          refine ⟨Ln, xs, ns, rfl, s5 _ _ eLn, nl.same s5, by omega, fun dd H6 s6 ed => ?_⟩
          have kt := kt.same s6
          have S6 := s5.trans s6
          repeat walk_at "rd"
          refine w_cut (Mid := fun σ' H' => ∃ u2 u3 u4 u5 u6 u7 u8 u9, σ' = [some (.ref a), some (.ref p), u2, u3, u4, u5, u6, u7, u8, u9, v10] ∧ H' L = some (.lst (ps.map V.ref)) ∧ Well (k * 1000 + 450) H' p ∧ ∀ q ∈ ps.drop (i + 1), Well 0 H' q ∧ q ≠ p) ?_ ?_
          · have lb := lv_bits (sumB_l nl.fin) (by have := nl.len; omega)
            have lv := lv_of (sumV ns)
            have nn := (sum_ok nl.fin (by have := nl.len; omega)).2
            have okS := (sum_ok nl.fin (by have := nl.len; omega)).1
            obtain ⟨dt, ht⟩ := id kt
            repeat walk_at "rd"
            refine w_methI ht (lk_fin _ _ _) ?_
            repeat walk_at "rd"
            refine ⟨tt, _, rfl, kt, ?_⟩
            repeat walk_at "rd"
            cases hsum : sumM ns with
            | nan => rw [hsum] at nn; cases nn
            | inf sg =>
              repeat walk_at "rd"
              refine iF ?_
              repeat walk_at "rd"
              refine ⟨p, Ln, _, xs, ns, rfl, w4.same S6, by omega, S6 _ _ eLn, nl.same S6, by omega, fun l ys ms H8 o8 w8 el nl8 pm => ?_⟩
              repeat walk_at "rd"
              refine ⟨l, ys, ms, rfl, el, nl8, by have := nl8.len; have := pm.length_eq; have := nl.len; omega, fun x9 H9 s9 k9 => ?_⟩
              rw [sumM_perm pm] at k9
              have kt9 := ((kt).othW o8 (w4.same S6)).same s9
              repeat walk_at "rd"
              refine u_eqF k9 kt9 fun H10 s10 => ?_
              repeat walk_at "rd"
              refine iF ?_
              repeat walk_at "rd"
              have S10 := s9.trans s10
              exact ⟨_, _, _, _, _, _, _, _, rfl, S10 _ _ (o8 _ _ neL (S6 _ _ hL4)), ((w8.same S10).mono (by omega)), wsame (woth (wsame wo4 S6) o8) S10⟩
            | fin S M P' =>
              have ir := sum_ir nl.fin (by have := nl.len; omega) hsum
              rw [hsum] at okS
              have kt2 := kt
              rw [hsum] at kt2
              repeat walk_at "rd"
              refine iT ?_
              repeat walk_at "rd"
              refine u_rto ed lv.d0 lv.co (by omega) (by omega) kt2 okS fun H7 s7 => ?_
              rw [ir]
              repeat walk_at "rd"
              refine iF ?_
              repeat walk_at "rd"
              refine ⟨p, Ln, _, xs, ns, rfl, w4.same (S6.trans s7), by omega, (S6.trans s7) _ _ eLn, nl.same (S6.trans s7), by omega, fun l ys ms H8 o8 w8 el nl8 pm => ?_⟩
              repeat walk_at "rd"
              refine ⟨l, ys, ms, rfl, el, nl8, by have := nl8.len; have := pm.length_eq; have := nl.len; omega, fun x9 H9 s9 k9 => ?_⟩
              rw [sumM_perm pm] at k9
              have kt9 := ((kt.same s7).othW o8 (w4.same (S6.trans s7))).same s9
              repeat walk_at "rd"
              refine u_eqF k9 kt9 fun H10 s10 => ?_
              repeat walk_at "rd"
              refine iF ?_
              repeat walk_at "rd"
              have S10 := s9.trans s10
              exact ⟨_, _, _, _, _, _, _, _, rfl, S10 _ _ (o8 _ _ neL ((S6.trans s7) _ _ hL4)), ((w8.same S10).mono (by omega)), wsame (woth (wsame wo4 (S6.trans s7)) o8) S10⟩
          rintro σ' H7 ⟨v2, v3, v4, v5, v6, v7, v8, v9, rfl, hL7, w7, wo7⟩
          clear kt ed eLn nl o4 w4 S6 s5 s6 hL3 hL4 wo3 wo4 nLn
          repeat walk_at "rd"
          refine u_flt w7 (by omega) fun x1 s1 t1 p1 H8 o8 w8 k8 ok8 => ?_
          repeat walk_at "rd"
          refine u_flt w8 (by omega) fun x2 s2 t2 p2 H9 o9 w9 k9 ok9 => ?_
          have k8 := k8.othW o9 w8
          have hL9 := o9 _ _ neL (o8 _ _ neL hL7)
          have wo9 := woth (woth wo7 o8) o9
          have last : ∀ H', Same H9 H' → H' L = some (.lst (ps.map V.ref)) ∧ Well ((k + 1) * 1000) H' p ∧ ∀ q ∈ ps.drop (i + 1), Well 0 H' q ∧ q ≠ p := fun H' s' => ⟨s' _ _ hL9, ((w9.same s').mono (by omega)), wsame wo9 s'⟩
          clear hL9 wo9 w9 w8 w7 o8 o9 hL7 wo7
          repeat walk_at "rd"
          refine w_lst2 fun l10 H10 s10 n10 e10 => ?_
          repeat walk_at "rd"
          refine u_sum e10 (nl2 (nm_f (k8.same s10) ok8) (fin_n ok8) (nm_f (k9.same s10) ok9) (fin_n ok9)) (by show 2 ≤ 1000; decide) fun x11 H11 s11 k11 => ?_
          rw [sum_two ok8 ok9] at k11
          have S11 := s10.trans s11
          repeat walk_at "rd"
          refine ⟨"add", .ref x1, .ref x2, .fl (.fin s1 t1 p1), .fl (.fin s2 t2 p2), rfl, .inl rfl, .inr (.inl rfl), nm_f (k8.same S11) ok8, nm_f (k9.same S11) ok9, fun x12 H12 s12 k12 => ?_⟩
          have k12 : FlAt CF H12 x12 (addM (.fin s1 t1 p1) (.fin s2 t2 p2)) := by
            have := k12
            rwa [show ariM "add" (toF (.fl (.fin s1 t1 p1))) (toF (.fl (.fin s2 t2 p2))) = addM (.fin s1 t1 p1) (.fin s2 t2 p2) from ariM_add] at this
          repeat walk_at "rd"
          refine u_eqF (k11.same s12) k12 fun H13 s13 => ?_
          have S13 := S11.trans (s12.trans s13)
          repeat walk_at "rd"
          refine iF ?_
          repeat walk_at "rd"
          refine ⟨x1, x2, _, _, _, _, _, _, rfl, k8.same S13, ok8, k9.same S13, ok9, fun H14 s14 => ?_⟩
          have S14 := S13.trans s14
          repeat walk_at "rd"
          refine iF ?_
          repeat walk_at "rd"
          refine w_lst1 fun l15 H15 s15 n15 e15 => ?_
          have S15 := S14.trans s15
          repeat walk_at "rd"
          refine u_sum e15 (nl1 (nm_f (k8.same S15) ok8) (fin_n ok8)) (by show 1 ≤ 1000; decide) fun x16 H16 s16 k16 => ?_
          rw [sum_one ok8] at k16
          have S16 := S15.trans s16
          repeat walk_at "rd"
          refine u_eqF k16 (k8.same S16) fun H17 s17 => ?_
          have S17 := S16.trans s17
          have k8' := k8.same S17
          obtain ⟨d1, h1⟩ := id k8'
          have h1 : H17 x1 = some (.ins CF d1 (flds s1 (.int t1) p1)) := h1
          repeat walk_at "rd"
          refine iF ?_
          repeat walk_at "rd"
          refine w_fldI h1 T.l_Float T.n_sign (flds_s _ _ _) ?_
          repeat walk_at "rd"
          refine w_fldI h1 T.l_Float T.n_top (flds_t _ _ _) ?_
          repeat walk_at "rd"
          refine w_fldI h1 T.l_Float T.n_power (flds_p _ _ _) ?_
          repeat walk_at "rd"
          refine u_Float (opp_arg ok8) fun x18 H18 s18 n18 k18 => ?_
          repeat walk_at "rd"
          refine w_lst2 fun l19 H19 s19 n19 e19 => ?_
          have S19 := S17.trans (s18.trans s19)
          repeat walk_at "rd"
          refine u_sum e19 (nl2 (nm_f (k8.same S19) ok8) (fin_n ok8) (nm_f (k18.same s19) (neg_fin ok8)) (fin_n (neg_fin ok8))) (by show 2 ≤ 1000; decide) fun x20 H20 s20 k20 => ?_
          obtain ⟨r20, er⟩ := sum_opp ok8
          rw [er] at k20
          obtain ⟨d20, h20⟩ := k20
          have h20 : H20 x20 = some (.ins CF d20 (flds r20 (.int 0) 0)) := h20
          repeat walk_at "rd"
          refine w_fldI h20 T.l_Float T.n_top (flds_t _ _ _) ?_
          repeat walk_at "rd"
          refine iN (fun c => absurd rfl c) (fun _ => ?_)
          repeat walk_at "rd"
          exact ⟨_, _, _, _, _, _, _, _, _, rfl, last H20 (S19.trans s20)⟩
        · rintro σ H3 ⟨v2, v3, v4, v5, v6, v7, v8, v9, v10, rfl, hL3, w3, wo3⟩
          repeat walk_at "rd"
          exact ⟨_, _, _, _, _, _, _, _, _, _, rfl, hL3, fun q hq => (wo3 q hq).1⟩
      · rintro σ' H2 ⟨u1, u2, u3, u4, u5, u6, u7, u8, u9, u10, rfl, hL2, _⟩
        exact ⟨_, _, _, _, _, _, _, _, _, _, rfl⟩
    rintro σ' H2 ⟨u1, u2, u3, u4, u5, u6, u7, u8, u9, u10, rfl⟩
    have okL : (Fl.fin (-1) 0 0).ok := ⟨.inr rfl, by decide, by decide, fun _ => rfl, fun h => absurd rfl h⟩
    repeat walk_at "rd"
    refine u_Float (.inl ⟨0, rfl, by decide, .inr rfl, by rw [red_zero]; decide, rfl⟩) fun x3 H3 s3 n3 k3 => ?_
    rw [red_zero] at k3
    have k3 : FlAt CF H3 x3 (.fin (-1) 0 0) := k3
    repeat walk_at "rd"
    refine w_cut (Mid := fun σ' H' => σ' = [some (.ref a), u1, u2, u3, u4, u5, u6, u7, some (.ref x3), u9, u10]) ?_ ?_
    · repeat walk_at "rd"
      refine w_lst2 fun l4 H4 s4 n4 e4 => ?_
      repeat walk_at "rd"
      refine u_sum e4 (nl2 (nm_f (k3.same s4) okL) (fin_n okL) (nm_f (k3.same s4) okL) (fin_n okL)) (by show 2 ≤ 1000; decide) fun x5 H5 s5 k5 => ?_
      rw [sum_two okL okL, show addM (.fin (-1) 0 0) (.fin (-1) 0 0) = .fin (-1) 0 0 by decide +kernel] at k5
      have S5 := s4.trans s5
      repeat walk_at "rd"
      refine u_eqF k5 (k3.same S5) fun H6 s6 => ?_
      have S6 := S5.trans s6
      repeat walk_at "rd"
      refine iF ?_
      repeat walk_at "rd"
      refine w_lstI (by show 0 ≤ 1000; decide) fun l7 H7 s7 n7 e7 => ?_
      repeat walk_at "rd"
      refine u_sum e7 nl0 (by show 0 ≤ 1000; decide) fun x8 H8 s8 k8 => ?_
      rw [show sumM [] = .fin 1 0 0 by decide +kernel] at k8
      repeat walk_at "rd"
      refine u_Float (.inl ⟨0, rfl, by decide, .inl rfl, by rw [red_zero]; decide, rfl⟩) fun x9 H9 s9 n9 k9 => ?_
      rw [red_zero] at k9
      repeat walk_at "rd"
      refine u_eqF (k8.same s9) k9 fun H10 s10 => ?_
      have S10 := S6.trans (s7.trans (s8.trans (s9.trans s10)))
      repeat walk_at "rd"
      refine iF ?_
      repeat walk_at "rd"
      refine w_lst2 fun l11 H11 s11 n11 e11 => ?_
      repeat walk_at "rd"
      refine u_sum e11 (nl2 (nm_f (k3.same (S10.trans s11)) okL) (fin_n okL) (n' := .int 0) ⟨rfl, by decide⟩ (show bits 0 ≤ 70 by decide)) (by show 2 ≤ 1000; decide) fun x12 H12 s12 k12 => ?_
      rw [show sumM [.fl (.fin (-1) 0 0), .int 0] = .fin 1 0 0 by decide +kernel] at k12
      repeat walk_at "rd"
      refine u_Float (.inl ⟨0, rfl, by decide, .inl rfl, by rw [red_zero]; decide, rfl⟩) fun x13 H13 s13 n13 k13 => ?_
      rw [red_zero] at k13
      repeat walk_at "rd"
      refine u_eqF (k12.same s13) k13 fun H14 s14 => ?_
      repeat walk_at "rd"
      refine iF ?_
      repeat walk_at "rd"
      exact rfl
    rintro σ' H4 rfl
    refine w_cut (Mid := fun σ' H' => ∃ xs l, σ' = [some (.ref a), u1, u2, u3, u4, u5, u6, u7, some (.ref x3), some (.ref l), u10] ∧ H' l = some (.lst xs) ∧ xs.length = 7 ∧ ∀ x ∈ xs, BadS CF H' x) ?_ ?_
    · repeat walk_at "rd"
      refine w_tupI (by show 1 ≤ 1000; decide) fun q5 H5 s5 n5 e5 => ?_
      repeat walk_at "rd"
      refine u_Float (.inr (.inl ⟨rfl, rfl, .inl rfl, rfl⟩)) fun x6 H6 s6 n6 k6 => ?_
      repeat walk_at "rd"
      refine w_lst1 fun l7 H7 s7 n7 e7 => ?_
      repeat walk_at "rd"
      refine u_Float (.inr (.inr ⟨rfl, rfl, rfl, rfl⟩)) fun x8 H8 s8 n8 k8 => ?_
      repeat walk_at "rd"
      refine w_lst1 fun l9 H9 s9 n9 e9 => ?_
      repeat walk_at "rd"
      refine w_lst1 fun l10 H10 s10 n10 e10 => ?_
      repeat walk_at "rd"
      refine w_lst1 fun l11 H11 s11 n11 e11 => ?_
      repeat walk_at "rd"
      refine w_lstI (by show 7 ≤ 1000; decide) fun l12 H12 s12 n12 e12 => ?_
      repeat walk_at "rd"
      have S11 := s11.trans s12
      have S10 := s10.trans S11
      have S9 := s9.trans S10
      have S8 := s8.trans S9
      have S7 := s7.trans S8
      refine ⟨_, l12, rfl, e12, rfl, fun x hx => ?_⟩
      simp only [List.mem_cons, List.not_mem_nil, or_false] at hx
      rcases hx with rfl | rfl | rfl | rfl | rfl | rfl | rfl
      · exact .non
      · exact .tup ((s6.trans S7) _ _ e5)
      · exact .fl (S8 _ _ e7) (k6.same S7) rfl
      · exact .fl (S10 _ _ e9) (k8.same S9) rfl
      · exact .nn (S11 _ _ e10) (.inl ⟨_, rfl⟩)
      · exact .nn (s12 _ _ e11) (.inr ⟨_, rfl⟩)
      · exact .int _
    rintro σ' H5 ⟨xs, l, rfl, el, hl, hx⟩
    repeat walk_at "rd"
    refine w_lc ?_
    repeat walk_at "rd"
    refine w_iListI el fun D nD => ?_
    refine lc_list (xs := xs) (fun i H' => Same H5 H' ∧ H' D = some (.lst (List.replicate i (.str "numbers")))) ⟨same_upd nD, upd_same⟩ (fun i H' _ p => SqL.of (p.1 _ _ el)) ?_ ?_
    · intro i x H' hi ⟨p1, p2⟩
      have hi5 : i < xs.length := (List.getElem?_eq_some_iff.mp hi).1
      have bad := (hx x (List.mem_of_getElem? hi)).same p1
      repeat walk_at "rd"
      refine ⟨rfl, ?_⟩
      refine w_yes ?_
      refine iT ?_
      repeat walk_at "rd"
      refine u_part bad fun H6 s6 => ?_
      refine ⟨_, s6 _ _ p2, by rw [List.length_replicate]; exact lt_line (n := 10) (by omega) (by decide), same_put (p1.trans s6) nD, ?_⟩
      rw [upd_same, List.replicate_succ']
    · intro H6 ⟨p1, p2⟩
      rw [hl] at p2
      repeat walk_at "rd"
      refine w_lst1 fun l7 H7 s7 n7 e7 => ?_
      repeat walk_at "rd"
      refine w_lenL ((p1.trans s7) _ _ el) ?_
      rw [hl]
      refine w_rep e7 (by decide) (by decide) (by decide) fun l8 H8 s8 n8 e8 => ?_
      have dd : ∀ {p : Addr}, H8 p = some (.lst [.str "numbers", .str "numbers", .str "numbers", .str "numbers", .str "numbers", .str "numbers", .str "numbers"]) → Dp K H8 (.ref p) (.list [.str "numbers", .str "numbers", .str "numbers", .str "numbers", .str "numbers", .str "numbers", .str "numbers"]) := fun e => .lst (SqL.of e) (.cons (.str _) (.cons (.str _) (.cons (.str _) (.cons (.str _) (.cons (.str _) (.cons (.str _) (.cons (.str _) .nil)))))))
      refine w_eqD (dd ((s7.trans s8) _ _ p2)) (dd e8) (by decide +kernel) (by decide +kernel) ?_
      rw [show PyData.eqv (.list [.str "numbers", .str "numbers", .str "numbers", .str "numbers", .str "numbers", .str "numbers", .str "numbers"]) (.list [.str "numbers", .str "numbers", .str "numbers", .str "numbers", .str "numbers", .str "numbers", .str "numbers"]) = true by decide +kernel]
      exact q H8
end
end Nu

set_option Elab.async false
set_option linter.all false
set_option maxRecDepth 100000
set_option autoImplicit false
set_option maxHeartbeats 4000000
namespace Nu
open PySem PySem.Spec PyProof.Rows L2 Rd
local macro_rules | `(tactic| walk_at "rd") => `(tactic| first
  | with_reducible refine w_nx ?_
  | with_reducible refine w_seq ?_
  | with_reducible refine w_drop ?_
  | with_reducible refine w_nil ?_
  | with_reducible refine w_cons ?_
  | ((with_reducible refine' w_var ?rdh ?_); (case rdh => exact rfl)))
theorem exm_own {K : PySem.W.Frag} {C : Addr} (h1 : PySem.W.subIn K (.ref C) (.type "BaseException") = some true) (h2 : PySem.W.isClsIn K C = true) (h3 : PySem.W.typeIn K (.ref C) = some (.type "type")) (h4 : PySem.W.subIn K (.ref C) (.ref C) = some true) : PySem.W.exmOne K (.ref C) (.ref C) = some true := by
  have e2 : (PySem.W.clsIn K C).isSome = true := h2
  unfold PySem.W.exmOne PySem.W.kitCls
  simp [h1, h3, h4, e2]
theorem w_ai {K : PySem.W.Frag} {ta : TA} {σ : L2.St} {H : Hp} {Q : VK} (h : ta σ H fun vs H1 => ∃ (a C : Addr) (ws : List L2.V), vs = .ref a :: ws ∧ ws.length ≤ 1000 ∧ AexC K C ∧ H1 a = some (exo a C none) ∧ Q .non H1) : tAI K ta σ H Q := h
theorem w_ast {K : PySem.W.Frag} {f : Str} {to te : TE} {D : Ends} {σ : L2.St} {H : Hp} (h : te σ H fun y H1 => to σ H1 fun x H2 => ∃ a C : Addr, x = .ref a ∧ AexC K C ∧ PySem.W.findIn K (.ref C) f = some none ∧
  ((H2 a = some (exo a C none) ∧ ∀ dx, H2 dx = none → dx ≠ a → D.nx σ (upd (upd H2 a (exo a C (some dx))) dx (exd dx [(f, y)]))) ∨
    ∃ (dx : Addr) (fs : List (Str × L2.V)), H2 a = some (exo a C (some dx)) ∧ H2 dx = some (exd dx fs) ∧ fs.length ≤ 900 ∧ D.nx σ (upd H2 dx (exd dx ((f, y) :: fs))))) : tAst K f to te D σ H := h
theorem sc_InvalidArgument_init : FnScope ["self", "part"] ["self", "part"] (defScope s_InvalidArgument_init) := ⟨rfl, rfl, rfl, by decide +kernel, rfl, by decide +kernel, by decide +kernel⟩
theorem ia_kn {P : Program} {w : World} {K : PySem.W.Frag} {mg : Str → Option Value} {base : Heap} {CF CE CL : Addr} (T : AllP K mg CF CE CL) {f : Addr} {fd : FuncData}
    (F : Fun K "__init__" "InvalidArgument.__init__" s_InvalidArgument_init f fd) (hb : Binds K fd ["self", "part"] []) (a : PySem.W.findIn K (.ref CE) "__init__" = some (some (.ref f))) (t : PySem.W.typeIn K (.ref f) = some (.type "function")) : KnIA P w K mg base CE := by
  refine ⟨f, fd, T.g_InvalidArgument, T.a_InvalidArgument, a, t, hb, ?_⟩
  refine F.ok sc_InvalidArgument_init (fun vs H Q E h => ?_) (fun cdv A outer s H vs Q E hr h => ?_)
  · obtain ⟨x, v, rfl, _⟩ := h
    rfl
  · obtain ⟨x, v, rfl, hx, q⟩ := h
    refine ⟨_, (pss_cons (ps_expr (pe_linit rfl T.g_LuaError T.r_LuaError (pa_cons (pv 0) (pa_cons (pv 1) pa_nil)))) (pss_one (ps_ast (pv 0) (pv 1)))), ?_⟩
    repeat walk_at "rd"
    refine w_ai ?_
    repeat walk_at "rd"
    refine ⟨x, CE, [v], rfl, by show 1 ≤ 1000; decide, T.a_InvalidArgument, hx, ?_⟩
    repeat walk_at "rd"
    refine w_ast ?_
    repeat walk_at "rd"
    refine ⟨x, CE, rfl, T.a_InvalidArgument, T.xn_part, .inl ⟨hx, fun d hd hda => ?_⟩⟩
    exact q d hd hda
theorem ok_all {P : Program} {w : World} {K : PySem.W.Frag} {mg : Str → Option Value} {base : Heap} {CF CE CL : Addr} (T : AllP K mg CF CE CL) (kI : KnIA P w K mg base CE) {f : Addr} {fd : FuncData} (F : Fun K "law" "law" s_law f fd) : FnOk P w K mg base CX0 20 f fd ["script"] (spLaw K) := by
  have A := T.toAll
  have N := T.toAllN
  have O := T.toAllO
  have S := T.toAllS
  have k1 := ok_is_plain (P := P) (w := w) (base := base) A
  have k2 := ok_reduced (P := P) (w := w) (base := base) A
  have k3 := ok_fits (P := P) (w := w) (base := base) A
  have k4 := ok_sign_of (P := P) (w := w) (base := base) A
  have k5 := ok_init (P := P) (w := w) (base := base) A k1 k2 k3
  have k6 := ok_infinity (P := P) (w := w) (base := base) A k5
  have k7 := ok_nearest (P := P) (w := w) (base := base) A k5 k6
  have k8 := ok_is_finite (P := P) (w := w) (base := base) A
  have k9 := ok_ratio (P := P) (w := w) (base := base) A
  have k11 := ok_to_float (P := P) (w := w) (base := base) A k4 k7
  have k18 := ok_well (P := P) (w := w) (base := base) T.toAllL
  have k19 := ok_draw (P := P) (w := w) (base := base) T.toAllL
  have k20 := ok_one (P := P) (w := w) (base := base) T.toAllL k19
  have k24 := ok_nan (P := P) (w := w) (base := base) N k5
  have k25 := ok_added (P := P) (w := w) (base := base) N k24 k5 k9 k4 k7
  have e1 := ok_eq (P := P) (w := w) (base := base) N
  have n2 := ok_multiplied (P := P) (w := w) (base := base) N k24 k6 k9 k7
  have n3 := ok_divided (P := P) (w := w) (base := base) N k24 k6 k9 k5 k7
  have k26 := ok_by_floats (P := P) (w := w) (base := base) N k24 k25 n2 n3 k5
  have k27 := ok_arith (P := P) (w := w) (base := base) N k26 k11
  have r1 := ok_spread (P := P) (w := w) (base := base) T.toAllK
  have r2 := ok_rank_of (P := P) (w := w) (base := base) T.toAllK r1
  have r3 := ok_of_rank (P := P) (w := w) (base := base) T.toAllK k6 k4 k5
  have o1 := ok_lowered (P := P) (w := w) (base := base) O
  have o2 := ok_middle (P := P) (w := w) (base := base) O o1
  have o3 := ok_value_at (P := P) (w := w) (base := base) O k4 r3 k9
  have o4 := ok_is_even (P := P) (w := w) (base := base) O r2
  have o5 := ok_finite_float (P := P) (w := w) (base := base) O k8
  have o6 := ok_check (P := P) (w := w) (base := base) O o5
  have o7 := ok_spread2 (P := P) (w := w) (base := base) O o6 r2 o1 o2 o3 o4 k9
  have o8 := ok_is_fraction (P := P) (w := w) (base := base) O o1
  have o9 := ok_is_rounded_to (P := P) (w := w) (base := base) O o8 o7
  have q1 := ok_is_number (P := P) (w := w) (base := base) S k1
  have q2 := ok_as_fraction (P := P) (w := w) (base := base) S k9
  have q3 := ok_exact_sum (P := P) (w := w) (base := base) S q1 k8 q2 o1 k7 k4 k5
  have q4 := ok_float_of (P := P) (w := w) (base := base) S k7 k4 k8 k9
  have q5 := ok_split_by (P := P) (w := w) (base := base) S k8 k9 q4
  have q6 := ok_split_sum (P := P) (w := w) (base := base) S o6 k25 q5
  have q7 := ok_split_product (P := P) (w := w) (base := base) S o6 n2 q5
  have x1 := ok_exact_sumX (P := P) (w := w) (base := base) T kI q1 k8
  have p1 := ok_part (P := P) (w := w) (base := base) T x1
  have l1 := ok_law_low (P := P) (w := w) (base := base) T
  have l2 := ok_law_sum (P := P) (w := w) (base := base) T k9 l1
  have l3 := ok_parts (P := P) (w := w) (base := base) T k9 k27 q6 q7 k8 e1 l2 l1
  have f1 := ok_float (P := P) (w := w) (base := base) T k19 k20 k5
  have w1 := ok_wells (P := P) (w := w) (base := base) T k18
  have m1 := ok_mixed_up (P := P) (w := w) (base := base) T k19
  have m2 := ok_numbers (P := P) (w := w) (base := base) T k19 f1 k5
  exact (ok_law T w1 f1 m2 q3 l2 k8 o9 m1 e1 k27 l3 p1 k5 F).mono (by decide)
theorem fin_mk {l : PySem.W.OpenLaw} {w : World} {K : PySem.W.Frag} {h : Heap} {mg : Str → Option Value} {fa : Addr} (X : K.In h) (G : h.Ns mainGlobals mg) (hfa : mg "law" = some (.ref fa))
    {t_LEAST : Tok}
    {t_MOST : Tok}
    {t_ROOM : Tok}
    {t_LOWEST : Tok}
    {t_TOO_GREAT : Tok}
    {t_HALF_ROOM : Tok}
    {t_GREATEST_RANK : Tok}
    {CF : Addr}
    {f1 : Addr} {od1 an1 : Option Addr} {sl1 : Array (Option Value)} {oc1 dc1 pm1 cd1 ct1 kV1 : Value}
    {f2 : Addr} {od2 an2 : Option Addr} {sl2 : Array (Option Value)} {oc2 dc2 pm2 cd2 ct2 kV2 : Value}
    {f3 : Addr} {od3 an3 : Option Addr} {sl3 : Array (Option Value)} {oc3 dc3 pm3 cd3 ct3 kV3 : Value}
    {f4 : Addr} {od4 an4 : Option Addr} {sl4 : Array (Option Value)} {oc4 dc4 pm4 cd4 ct4 kV4 : Value}
    {f5 : Addr} {od5 an5 : Option Addr} {sl5 : Array (Option Value)} {oc5 dc5 pm5 cd5 ct5 kV5 : Value}
    {f6 : Addr} {od6 an6 : Option Addr} {sl6 : Array (Option Value)} {oc6 dc6 pm6 cd6 ct6 kV6 : Value}
    {f7 : Addr} {od7 an7 : Option Addr} {sl7 : Array (Option Value)} {oc7 dc7 pm7 cd7 ct7 kV7 : Value}
    {f8 : Addr} {od8 an8 : Option Addr} {sl8 : Array (Option Value)} {oc8 dc8 pm8 cd8 ct8 kV8 : Value}
    {f9 : Addr} {od9 an9 : Option Addr} {sl9 : Array (Option Value)} {oc9 dc9 pm9 cd9 ct9 kV9 : Value}
    {f10 : Addr} {od10 an10 : Option Addr} {sl10 : Array (Option Value)} {oc10 dc10 pm10 cd10 ct10 kV10 : Value}
    {f11 : Addr} {od11 an11 : Option Addr} {sl11 : Array (Option Value)} {oc11 dc11 pm11 cd11 ct11 kV11 : Value}
    {f12 : Addr} {od12 an12 : Option Addr} {sl12 : Array (Option Value)} {oc12 dc12 pm12 cd12 ct12 kV12 : Value}
    {f13 : Addr} {od13 an13 : Option Addr} {sl13 : Array (Option Value)} {oc13 dc13 pm13 cd13 ct13 kV13 : Value}
    {f14 : Addr} {od14 an14 : Option Addr} {sl14 : Array (Option Value)} {oc14 dc14 pm14 cd14 ct14 kV14 : Value}
    {f15 : Addr} {od15 an15 : Option Addr} {sl15 : Array (Option Value)} {oc15 dc15 pm15 cd15 ct15 kV15 : Value}
    {f16 : Addr} {od16 an16 : Option Addr} {sl16 : Array (Option Value)} {oc16 dc16 pm16 cd16 ct16 kV16 : Value}
    {f17 : Addr} {od17 an17 : Option Addr} {sl17 : Array (Option Value)} {oc17 dc17 pm17 cd17 ct17 kV17 : Value}
    {f18 : Addr} {od18 an18 : Option Addr} {sl18 : Array (Option Value)} {oc18 dc18 pm18 cd18 ct18 kV18 : Value}
    {f19 : Addr} {od19 an19 : Option Addr} {sl19 : Array (Option Value)} {oc19 dc19 pm19 cd19 ct19 kV19 : Value}
    {f20 : Addr} {od20 an20 : Option Addr} {sl20 : Array (Option Value)} {oc20 dc20 pm20 cd20 ct20 kV20 : Value}
    {f21 : Addr} {od21 an21 : Option Addr} {sl21 : Array (Option Value)} {oc21 dc21 pm21 cd21 ct21 kV21 : Value}
    {f22 : Addr} {od22 an22 : Option Addr} {sl22 : Array (Option Value)} {oc22 dc22 pm22 cd22 ct22 kV22 : Value}
    {f23 : Addr} {od23 an23 : Option Addr} {sl23 : Array (Option Value)} {oc23 dc23 pm23 cd23 ct23 kV23 : Value}
    {f24 : Addr} {od24 an24 : Option Addr} {sl24 : Array (Option Value)} {oc24 dc24 pm24 cd24 ct24 kV24 : Value}
    {f25 : Addr} {od25 an25 : Option Addr} {sl25 : Array (Option Value)} {oc25 dc25 pm25 cd25 ct25 kV25 : Value}
    {f26 : Addr} {od26 an26 : Option Addr} {sl26 : Array (Option Value)} {oc26 dc26 pm26 cd26 ct26 kV26 : Value}
    {f27 : Addr} {od27 an27 : Option Addr} {sl27 : Array (Option Value)} {oc27 dc27 pm27 cd27 ct27 kV27 : Value}
    {f28 : Addr} {od28 an28 : Option Addr} {sl28 : Array (Option Value)} {oc28 dc28 pm28 cd28 ct28 kV28 : Value}
    {f29 : Addr} {od29 an29 : Option Addr} {sl29 : Array (Option Value)} {oc29 dc29 pm29 cd29 ct29 kV29 : Value}
    {f30 : Addr} {od30 an30 : Option Addr} {sl30 : Array (Option Value)} {oc30 dc30 pm30 cd30 ct30 kV30 : Value}
    {f31 : Addr} {od31 an31 : Option Addr} {sl31 : Array (Option Value)} {oc31 dc31 pm31 cd31 ct31 kV31 : Value}
    {f32 : Addr} {od32 an32 : Option Addr} {sl32 : Array (Option Value)} {oc32 dc32 pm32 cd32 ct32 kV32 : Value}
    {f33 : Addr} {od33 an33 : Option Addr} {sl33 : Array (Option Value)} {oc33 dc33 pm33 cd33 ct33 kV33 : Value}
    {f34 : Addr} {od34 an34 : Option Addr} {sl34 : Array (Option Value)} {oc34 dc34 pm34 cd34 ct34 kV34 : Value}
    {f35 : Addr} {od35 an35 : Option Addr} {sl35 : Array (Option Value)} {oc35 dc35 pm35 cd35 ct35 kV35 : Value}
    {f36 : Addr} {od36 an36 : Option Addr} {sl36 : Array (Option Value)} {oc36 dc36 pm36 cd36 ct36 kV36 : Value}
    {f37 : Addr} {od37 an37 : Option Addr} {sl37 : Array (Option Value)} {oc37 dc37 pm37 cd37 ct37 kV37 : Value}
    {f38 : Addr} {od38 an38 : Option Addr} {sl38 : Array (Option Value)} {oc38 dc38 pm38 cd38 ct38 kV38 : Value}
    {f39 : Addr} {od39 an39 : Option Addr} {sl39 : Array (Option Value)} {oc39 dc39 pm39 cd39 ct39 kV39 : Value}
    {f40 : Addr} {od40 an40 : Option Addr} {sl40 : Array (Option Value)} {oc40 dc40 pm40 cd40 ct40 kV40 : Value}
    {f41 : Addr} {od41 an41 : Option Addr} {sl41 : Array (Option Value)} {oc41 dc41 pm41 cd41 ct41 kV41 : Value}
    {f42 : Addr} {od42 an42 : Option Addr} {sl42 : Array (Option Value)} {oc42 dc42 pm42 cd42 ct42 kV42 : Value}
    {f43 : Addr} {od43 an43 : Option Addr} {sl43 : Array (Option Value)} {oc43 dc43 pm43 cd43 ct43 kV43 : Value}
    {f44 : Addr} {od44 an44 : Option Addr} {sl44 : Array (Option Value)} {oc44 dc44 pm44 cd44 ct44 kV44 : Value}
    {f45 : Addr} {od45 an45 : Option Addr} {sl45 : Array (Option Value)} {oc45 dc45 pm45 cd45 ct45 kV45 : Value}
    {f46 : Addr} {od46 an46 : Option Addr} {sl46 : Array (Option Value)} {oc46 dc46 pm46 cd46 ct46 kV46 : Value}
    {f47 : Addr} {od47 an47 : Option Addr} {sl47 : Array (Option Value)} {oc47 dc47 pm47 cd47 ct47 kV47 : Value}
    {f48 : Addr} {od48 an48 : Option Addr} {sl48 : Array (Option Value)} {oc48 dc48 pm48 cd48 ct48 kV48 : Value}
    {f49 : Addr} {od49 an49 : Option Addr} {sl49 : Array (Option Value)} {oc49 dc49 pm49 cd49 ct49 kV49 : Value}
    {f50 : Addr} {od50 an50 : Option Addr} {sl50 : Array (Option Value)} {oc50 dc50 pm50 cd50 ct50 kV50 : Value}
    {f51 : Addr} {od51 an51 : Option Addr} {sl51 : Array (Option Value)} {oc51 dc51 pm51 cd51 ct51 kV51 : Value}
    
    {CE CL : Addr} {f99 : Addr} {od99 an99 : Option Addr} {sl99 : Array (Option Value)} {oc99 dc99 pm99 cd99 ct99 kV99 : Value}
    
    
    
    
    
    
    (b_isinstance : PySem.W.nsIn K mainGlobals "isinstance" = some none)
    (b_int : PySem.W.nsIn K mainGlobals "int" = some none)
    (b_str : PySem.W.nsIn K mainGlobals "str" = some none)
    (b_bool : PySem.W.nsIn K mainGlobals "bool" = some none)
    (b_abs : PySem.W.nsIn K mainGlobals "abs" = some none)
    (b_max : PySem.W.nsIn K mainGlobals "max" = some none)
    (b_min : PySem.W.nsIn K mainGlobals "min" = some none)
    (b_divmod : PySem.W.nsIn K mainGlobals "divmod" = some none)
    (b_len : PySem.W.nsIn K mainGlobals "len" = some none)
    (b_range : PySem.W.nsIn K mainGlobals "range" = some none)
    (b_list : PySem.W.nsIn K mainGlobals "list" = some none)
    (b_tuple : PySem.W.nsIn K mainGlobals "tuple" = some none)
    (b_all : PySem.W.nsIn K mainGlobals "all" = some none)
    (b_any : PySem.W.nsIn K mainGlobals "any" = some none)
    (c_LEAST : PySem.W.nsIn K mainGlobals "LEAST" = some (some (.int (-9223372036854775808) t_LEAST)))
    (c_MOST : PySem.W.nsIn K mainGlobals "MOST" = some (some (.int (9223372036854775807) t_MOST)))
    (c_ROOM : PySem.W.nsIn K mainGlobals "ROOM" = some (some (.int (9007199254740992) t_ROOM)))
    (c_LOWEST : PySem.W.nsIn K mainGlobals "LOWEST" = some (some (.int (-1074) t_LOWEST)))
    (c_TOO_GREAT : PySem.W.nsIn K mainGlobals "TOO_GREAT" = some (some (.int (1024) t_TOO_GREAT)))
    (c_HALF_ROOM : PySem.W.nsIn K mainGlobals "HALF_ROOM" = some (some (.int (4503599627370496) t_HALF_ROOM)))
    (c_GREATEST_RANK : PySem.W.nsIn K mainGlobals "GREATEST_RANK" = some (some (.int (9218868437227405312) t_GREATEST_RANK)))
    (g_Float : PySem.W.nsIn K mainGlobals "Float" = some (some (.ref CF)))
    (pg_Float : PySem.W.plainGet K CF Str.empty = true)
    (hd_Float : PySem.W.hasDictIn K CF = true)
    (po_Float : PySem.W.plainOver K CF = true)
    (sa_Float : PySem.W.findIn K (.ref CF) "__setattr__" = some (some (.builtin "object.__setattr__")))
    (yc_Float : PySem.W.findIn K (.ref CF) "__class__" = some (some (.builtin "object.__class__")))
    (ym_Float : PySem.W.mroIn K CF (.type "object") = some true)
    (n_sign : PySem.W.findIn K (.ref CF) "sign" = some none)
    (n_top : PySem.W.findIn K (.ref CF) "top" = some none)
    (n_power : PySem.W.findIn K (.ref CF) "power" = some none)
    (i_Fint : PySem.W.kitOne K (.ref CF) (.type "int") = some false)
    (i_Fbool : PySem.W.kitOne K (.ref CF) (.type "bool") = some false)
    (i_Fstr : PySem.W.kitOne K (.ref CF) (.type "str") = some false)
    (i_intF : PySem.W.kitOne K (.type "int") (.ref CF) = some false)
    (i_boolF : PySem.W.kitOne K (.type "bool") (.ref CF) = some false)
    (i_strF : PySem.W.kitOne K (.type "str") (.ref CF) = some false)
    (i_nonF : PySem.W.kitOne K (.type "NoneType") (.ref CF) = some false)
    (mk_Float : PySem.W.makesIn K CF = true)
    (kc_Float : PySem.W.keepIn K (.ref CF) = true)
    (y_spec : PySem.W.specialIn K (.builtin "object.__class__") "__get__" = some (some (.builtin "getset_descriptor.__get__")))
    (y_takes : PySem.W.takesIn K (.builtin "object.__class__") = some true)
    (a1 : PySem.W.findIn K (.ref CF) "__init__" = some (some (.ref f1)))
    (l1 : K.lookup f1 = some ⟨oc1, od1, .func (PySem.W.fnOf "__init__" "Float.__init__" (defArgs s_Float_init) (defBody s_Float_init) (defScope s_Float_init) .none kV1 dc1 pm1 an1 cd1 ct1), sl1⟩)
    (c1 : PySem.W.codeIn K cd1 "Float.__init__" = true)
    (k1 : PySem.W.keepIn K (.ref f1) = true)
    (i1 : PySem.W.isFn K (.ref f1) = true)
    (a2 : PySem.W.findIn K (.ref CF) "is_finite" = some (some (.ref f2)))
    (l2 : K.lookup f2 = some ⟨oc2, od2, .func (PySem.W.fnOf "is_finite" "Float.is_finite" (defArgs s_Float_is_finite) (defBody s_Float_is_finite) (defScope s_Float_is_finite) .none kV2 dc2 pm2 an2 cd2 ct2), sl2⟩)
    (c2 : PySem.W.codeIn K cd2 "Float.is_finite" = true)
    (k2 : PySem.W.keepIn K (.ref f2) = true)
    (i2 : PySem.W.isFn K (.ref f2) = true)
    (a3 : PySem.W.findIn K (.ref CF) "ratio" = some (some (.ref f3)))
    (l3 : K.lookup f3 = some ⟨oc3, od3, .func (PySem.W.fnOf "ratio" "Float.ratio" (defArgs s_Float_ratio) (defBody s_Float_ratio) (defScope s_Float_ratio) .none kV3 dc3 pm3 an3 cd3 ct3), sl3⟩)
    (c3 : PySem.W.codeIn K cd3 "Float.ratio" = true)
    (k3 : PySem.W.keepIn K (.ref f3) = true)
    (i3 : PySem.W.isFn K (.ref f3) = true)
    (a4 : PySem.W.findIn K (.ref CF) "__eq__" = some (some (.ref f4)))
    (l4 : K.lookup f4 = some ⟨oc4, od4, .func (PySem.W.fnOf "__eq__" "Float.__eq__" (defArgs s_Float_eq) (defBody s_Float_eq) (defScope s_Float_eq) .none kV4 dc4 pm4 an4 cd4 ct4), sl4⟩)
    (c4 : PySem.W.codeIn K cd4 "Float.__eq__" = true)
    (k4 : PySem.W.keepIn K (.ref f4) = true)
    (i4 : PySem.W.isFn K (.ref f4) = true)
    (a5 : PySem.W.nsIn K mainGlobals "is_plain" = some (some (.ref f5)))
    (l5 : K.lookup f5 = some ⟨oc5, od5, .func (PySem.W.fnOf "is_plain" "is_plain" (defArgs s_is_plain) (defBody s_is_plain) (defScope s_is_plain) .none kV5 dc5 pm5 an5 cd5 ct5), sl5⟩)
    (c5 : PySem.W.codeIn K cd5 "is_plain" = true)
    (k5 : PySem.W.keepIn K (.ref f5) = true)
    (a6 : PySem.W.nsIn K mainGlobals "reduced" = some (some (.ref f6)))
    (l6 : K.lookup f6 = some ⟨oc6, od6, .func (PySem.W.fnOf "reduced" "reduced" (defArgs s_reduced) (defBody s_reduced) (defScope s_reduced) .none kV6 dc6 pm6 an6 cd6 ct6), sl6⟩)
    (c6 : PySem.W.codeIn K cd6 "reduced" = true)
    (k6 : PySem.W.keepIn K (.ref f6) = true)
    (a7 : PySem.W.nsIn K mainGlobals "fits" = some (some (.ref f7)))
    (l7 : K.lookup f7 = some ⟨oc7, od7, .func (PySem.W.fnOf "fits" "fits" (defArgs s_fits) (defBody s_fits) (defScope s_fits) .none kV7 dc7 pm7 an7 cd7 ct7), sl7⟩)
    (c7 : PySem.W.codeIn K cd7 "fits" = true)
    (k7 : PySem.W.keepIn K (.ref f7) = true)
    (a8 : PySem.W.nsIn K mainGlobals "sign_of" = some (some (.ref f8)))
    (l8 : K.lookup f8 = some ⟨oc8, od8, .func (PySem.W.fnOf "sign_of" "sign_of" (defArgs s_sign_of) (defBody s_sign_of) (defScope s_sign_of) .none kV8 dc8 pm8 an8 cd8 ct8), sl8⟩)
    (c8 : PySem.W.codeIn K cd8 "sign_of" = true)
    (k8 : PySem.W.keepIn K (.ref f8) = true)
    (a9 : PySem.W.nsIn K mainGlobals "infinity" = some (some (.ref f9)))
    (l9 : K.lookup f9 = some ⟨oc9, od9, .func (PySem.W.fnOf "infinity" "infinity" (defArgs s_infinity) (defBody s_infinity) (defScope s_infinity) .none kV9 dc9 pm9 an9 cd9 ct9), sl9⟩)
    (c9 : PySem.W.codeIn K cd9 "infinity" = true)
    (k9 : PySem.W.keepIn K (.ref f9) = true)
    (a10 : PySem.W.nsIn K mainGlobals "nearest" = some (some (.ref f10)))
    (l10 : K.lookup f10 = some ⟨oc10, od10, .func (PySem.W.fnOf "nearest" "nearest" (defArgs s_nearest) (defBody s_nearest) (defScope s_nearest) .none kV10 dc10 pm10 an10 cd10 ct10), sl10⟩)
    (c10 : PySem.W.codeIn K cd10 "nearest" = true)
    (k10 : PySem.W.keepIn K (.ref f10) = true)
    (a11 : PySem.W.nsIn K mainGlobals "to_float" = some (some (.ref f11)))
    (l11 : K.lookup f11 = some ⟨oc11, od11, .func (PySem.W.fnOf "to_float" "to_float" (defArgs s_to_float) (defBody s_to_float) (defScope s_to_float) .none kV11 dc11 pm11 an11 cd11 ct11), sl11⟩)
    (c11 : PySem.W.codeIn K cd11 "to_float" = true)
    (k11 : PySem.W.keepIn K (.ref f11) = true)
    (a12 : PySem.W.nsIn K mainGlobals "_law_well" = some (some (.ref f12)))
    (l12 : K.lookup f12 = some ⟨oc12, od12, .func (PySem.W.fnOf "_law_well" "_law_well" (defArgs s_law_well) (defBody s_law_well) (defScope s_law_well) .none kV12 dc12 pm12 an12 cd12 ct12), sl12⟩)
    (c12 : PySem.W.codeIn K cd12 "_law_well" = true)
    (k12 : PySem.W.keepIn K (.ref f12) = true)
    (a13 : PySem.W.nsIn K mainGlobals "_law_draw" = some (some (.ref f13)))
    (l13 : K.lookup f13 = some ⟨oc13, od13, .func (PySem.W.fnOf "_law_draw" "_law_draw" (defArgs s_law_draw) (defBody s_law_draw) (defScope s_law_draw) .none kV13 dc13 pm13 an13 cd13 ct13), sl13⟩)
    (c13 : PySem.W.codeIn K cd13 "_law_draw" = true)
    (k13 : PySem.W.keepIn K (.ref f13) = true)
    (a14 : PySem.W.nsIn K mainGlobals "_law_one" = some (some (.ref f14)))
    (l14 : K.lookup f14 = some ⟨oc14, od14, .func (PySem.W.fnOf "_law_one" "_law_one" (defArgs s_law_one) (defBody s_law_one) (defScope s_law_one) .none kV14 dc14 pm14 an14 cd14 ct14), sl14⟩)
    (c14 : PySem.W.codeIn K cd14 "_law_one" = true)
    (k14 : PySem.W.keepIn K (.ref f14) = true)
    (a15 : PySem.W.nsIn K mainGlobals "nan" = some (some (.ref f15)))
    (l15 : K.lookup f15 = some ⟨oc15, od15, .func (PySem.W.fnOf "nan" "nan" (defArgs s_nan) (defBody s_nan) (defScope s_nan) .none kV15 dc15 pm15 an15 cd15 ct15), sl15⟩)
    (c15 : PySem.W.codeIn K cd15 "nan" = true)
    (k15 : PySem.W.keepIn K (.ref f15) = true)
    (a16 : PySem.W.nsIn K mainGlobals "added" = some (some (.ref f16)))
    (l16 : K.lookup f16 = some ⟨oc16, od16, .func (PySem.W.fnOf "added" "added" (defArgs s_added) (defBody s_added) (defScope s_added) .none kV16 dc16 pm16 an16 cd16 ct16), sl16⟩)
    (c16 : PySem.W.codeIn K cd16 "added" = true)
    (k16 : PySem.W.keepIn K (.ref f16) = true)
    (a17 : PySem.W.nsIn K mainGlobals "multiplied" = some (some (.ref f17)))
    (l17 : K.lookup f17 = some ⟨oc17, od17, .func (PySem.W.fnOf "multiplied" "multiplied" (defArgs s_multiplied) (defBody s_multiplied) (defScope s_multiplied) .none kV17 dc17 pm17 an17 cd17 ct17), sl17⟩)
    (c17 : PySem.W.codeIn K cd17 "multiplied" = true)
    (k17 : PySem.W.keepIn K (.ref f17) = true)
    (a18 : PySem.W.nsIn K mainGlobals "divided" = some (some (.ref f18)))
    (l18 : K.lookup f18 = some ⟨oc18, od18, .func (PySem.W.fnOf "divided" "divided" (defArgs s_divided) (defBody s_divided) (defScope s_divided) .none kV18 dc18 pm18 an18 cd18 ct18), sl18⟩)
    (c18 : PySem.W.codeIn K cd18 "divided" = true)
    (k18 : PySem.W.keepIn K (.ref f18) = true)
    (a19 : PySem.W.nsIn K mainGlobals "floored" = some (some (.ref f19)))
    (l19 : K.lookup f19 = some ⟨oc19, od19, .func (PySem.W.fnOf "floored" "floored" (defArgs s_floored) (defBody s_floored) (defScope s_floored) .none kV19 dc19 pm19 an19 cd19 ct19), sl19⟩)
    (c19 : PySem.W.codeIn K cd19 "floored" = true)
    (k19 : PySem.W.keepIn K (.ref f19) = true)
    (a20 : PySem.W.nsIn K mainGlobals "remainder" = some (some (.ref f20)))
    (l20 : K.lookup f20 = some ⟨oc20, od20, .func (PySem.W.fnOf "remainder" "remainder" (defArgs s_remainder) (defBody s_remainder) (defScope s_remainder) .none kV20 dc20 pm20 an20 cd20 ct20), sl20⟩)
    (c20 : PySem.W.codeIn K cd20 "remainder" = true)
    (k20 : PySem.W.keepIn K (.ref f20) = true)
    (a21 : PySem.W.nsIn K mainGlobals "by_floats" = some (some (.ref f21)))
    (l21 : K.lookup f21 = some ⟨oc21, od21, .func (PySem.W.fnOf "by_floats" "by_floats" (defArgs s_by_floats) (defBody s_by_floats) (defScope s_by_floats) .none kV21 dc21 pm21 an21 cd21 ct21), sl21⟩)
    (c21 : PySem.W.codeIn K cd21 "by_floats" = true)
    (k21 : PySem.W.keepIn K (.ref f21) = true)
    (a22 : PySem.W.nsIn K mainGlobals "arith" = some (some (.ref f22)))
    (l22 : K.lookup f22 = some ⟨oc22, od22, .func (PySem.W.fnOf "arith" "arith" (defArgs s_arith) (defBody s_arith) (defScope s_arith) .none kV22 dc22 pm22 an22 cd22 ct22), sl22⟩)
    (c22 : PySem.W.codeIn K cd22 "arith" = true)
    (k22 : PySem.W.keepIn K (.ref f22) = true)
    (a23 : PySem.W.nsIn K mainGlobals "wrapped" = some (some (.ref f23)))
    (l23 : K.lookup f23 = some ⟨oc23, od23, .func (PySem.W.fnOf "wrapped" "wrapped" (defArgs s_wrapped) (defBody s_wrapped) (defScope s_wrapped) .none kV23 dc23 pm23 an23 cd23 ct23), sl23⟩)
    (c23 : PySem.W.codeIn K cd23 "wrapped" = true)
    (k23 : PySem.W.keepIn K (.ref f23) = true)
    (a24 : PySem.W.nsIn K mainGlobals "spread_out" = some (some (.ref f24)))
    (l24 : K.lookup f24 = some ⟨oc24, od24, .func (PySem.W.fnOf "spread_out" "spread_out" (defArgs s_spread_out) (defBody s_spread_out) (defScope s_spread_out) .none kV24 dc24 pm24 an24 cd24 ct24), sl24⟩)
    (c24 : PySem.W.codeIn K cd24 "spread_out" = true)
    (k24 : PySem.W.keepIn K (.ref f24) = true)
    (a25 : PySem.W.nsIn K mainGlobals "rank_of" = some (some (.ref f25)))
    (l25 : K.lookup f25 = some ⟨oc25, od25, .func (PySem.W.fnOf "rank_of" "rank_of" (defArgs s_rank_of) (defBody s_rank_of) (defScope s_rank_of) .none kV25 dc25 pm25 an25 cd25 ct25), sl25⟩)
    (c25 : PySem.W.codeIn K cd25 "rank_of" = true)
    (k25 : PySem.W.keepIn K (.ref f25) = true)
    (a26 : PySem.W.nsIn K mainGlobals "of_rank" = some (some (.ref f26)))
    (l26 : K.lookup f26 = some ⟨oc26, od26, .func (PySem.W.fnOf "of_rank" "of_rank" (defArgs s_of_rank) (defBody s_of_rank) (defScope s_of_rank) .none kV26 dc26 pm26 an26 cd26 ct26), sl26⟩)
    (c26 : PySem.W.codeIn K cd26 "of_rank" = true)
    (k26 : PySem.W.keepIn K (.ref f26) = true)
    (a27 : PySem.W.nsIn K mainGlobals "lowered" = some (some (.ref f27)))
    (l27 : K.lookup f27 = some ⟨oc27, od27, .func (PySem.W.fnOf "lowered" "lowered" (defArgs s_lowered) (defBody s_lowered) (defScope s_lowered) .none kV27 dc27 pm27 an27 cd27 ct27), sl27⟩)
    (c27 : PySem.W.codeIn K cd27 "lowered" = true)
    (k27 : PySem.W.keepIn K (.ref f27) = true)
    (a28 : PySem.W.nsIn K mainGlobals "middle" = some (some (.ref f28)))
    (l28 : K.lookup f28 = some ⟨oc28, od28, .func (PySem.W.fnOf "middle" "middle" (defArgs s_middle) (defBody s_middle) (defScope s_middle) .none kV28 dc28 pm28 an28 cd28 ct28), sl28⟩)
    (c28 : PySem.W.codeIn K cd28 "middle" = true)
    (k28 : PySem.W.keepIn K (.ref f28) = true)
    (a29 : PySem.W.nsIn K mainGlobals "value_at" = some (some (.ref f29)))
    (l29 : K.lookup f29 = some ⟨oc29, od29, .func (PySem.W.fnOf "value_at" "value_at" (defArgs s_value_at) (defBody s_value_at) (defScope s_value_at) .none kV29 dc29 pm29 an29 cd29 ct29), sl29⟩)
    (c29 : PySem.W.codeIn K cd29 "value_at" = true)
    (k29 : PySem.W.keepIn K (.ref f29) = true)
    (a30 : PySem.W.nsIn K mainGlobals "is_even" = some (some (.ref f30)))
    (l30 : K.lookup f30 = some ⟨oc30, od30, .func (PySem.W.fnOf "is_even" "is_even" (defArgs s_is_even) (defBody s_is_even) (defScope s_is_even) .none kV30 dc30 pm30 an30 cd30 ct30), sl30⟩)
    (c30 : PySem.W.codeIn K cd30 "is_even" = true)
    (k30 : PySem.W.keepIn K (.ref f30) = true)
    (a31 : PySem.W.nsIn K mainGlobals "is_finite_float" = some (some (.ref f31)))
    (l31 : K.lookup f31 = some ⟨oc31, od31, .func (PySem.W.fnOf "is_finite_float" "is_finite_float" (defArgs s_is_finite_float) (defBody s_is_finite_float) (defScope s_is_finite_float) .none kV31 dc31 pm31 an31 cd31 ct31), sl31⟩)
    (c31 : PySem.W.codeIn K cd31 "is_finite_float" = true)
    (k31 : PySem.W.keepIn K (.ref f31) = true)
    (a32 : PySem.W.nsIn K mainGlobals "check_finite" = some (some (.ref f32)))
    (l32 : K.lookup f32 = some ⟨oc32, od32, .func (PySem.W.fnOf "check_finite" "check_finite" (defArgs s_check_finite) (defBody s_check_finite) (defScope s_check_finite) .none kV32 dc32 pm32 an32 cd32 ct32), sl32⟩)
    (c32 : PySem.W.codeIn K cd32 "check_finite" = true)
    (k32 : PySem.W.keepIn K (.ref f32) = true)
    (a33 : PySem.W.nsIn K mainGlobals "spread" = some (some (.ref f33)))
    (l33 : K.lookup f33 = some ⟨oc33, od33, .func (PySem.W.fnOf "spread" "spread" (defArgs s_spread) (defBody s_spread) (defScope s_spread) .none kV33 dc33 pm33 an33 cd33 ct33), sl33⟩)
    (c33 : PySem.W.codeIn K cd33 "spread" = true)
    (k33 : PySem.W.keepIn K (.ref f33) = true)
    (a34 : PySem.W.nsIn K mainGlobals "is_fraction" = some (some (.ref f34)))
    (l34 : K.lookup f34 = some ⟨oc34, od34, .func (PySem.W.fnOf "is_fraction" "is_fraction" (defArgs s_is_fraction) (defBody s_is_fraction) (defScope s_is_fraction) .none kV34 dc34 pm34 an34 cd34 ct34), sl34⟩)
    (c34 : PySem.W.codeIn K cd34 "is_fraction" = true)
    (k34 : PySem.W.keepIn K (.ref f34) = true)
    (a35 : PySem.W.nsIn K mainGlobals "is_rounded_to" = some (some (.ref f35)))
    (l35 : K.lookup f35 = some ⟨oc35, od35, .func (PySem.W.fnOf "is_rounded_to" "is_rounded_to" (defArgs s_is_rounded_to) (defBody s_is_rounded_to) (defScope s_is_rounded_to) .none kV35 dc35 pm35 an35 cd35 ct35), sl35⟩)
    (c35 : PySem.W.codeIn K cd35 "is_rounded_to" = true)
    (k35 : PySem.W.keepIn K (.ref f35) = true)
    (a36 : PySem.W.nsIn K mainGlobals "is_number" = some (some (.ref f36)))
    (l36 : K.lookup f36 = some ⟨oc36, od36, .func (PySem.W.fnOf "is_number" "is_number" (defArgs s_is_number) (defBody s_is_number) (defScope s_is_number) .none kV36 dc36 pm36 an36 cd36 ct36), sl36⟩)
    (c36 : PySem.W.codeIn K cd36 "is_number" = true)
    (k36 : PySem.W.keepIn K (.ref f36) = true)
    (a37 : PySem.W.nsIn K mainGlobals "as_fraction" = some (some (.ref f37)))
    (l37 : K.lookup f37 = some ⟨oc37, od37, .func (PySem.W.fnOf "as_fraction" "as_fraction" (defArgs s_as_fraction) (defBody s_as_fraction) (defScope s_as_fraction) .none kV37 dc37 pm37 an37 cd37 ct37), sl37⟩)
    (c37 : PySem.W.codeIn K cd37 "as_fraction" = true)
    (k37 : PySem.W.keepIn K (.ref f37) = true)
    (a38 : PySem.W.nsIn K mainGlobals "exact_sum" = some (some (.ref f38)))
    (l38 : K.lookup f38 = some ⟨oc38, od38, .func (PySem.W.fnOf "exact_sum" "exact_sum" (defArgs s_exact_sum) (defBody s_exact_sum) (defScope s_exact_sum) .none kV38 dc38 pm38 an38 cd38 ct38), sl38⟩)
    (c38 : PySem.W.codeIn K cd38 "exact_sum" = true)
    (k38 : PySem.W.keepIn K (.ref f38) = true)
    (a39 : PySem.W.nsIn K mainGlobals "float_of" = some (some (.ref f39)))
    (l39 : K.lookup f39 = some ⟨oc39, od39, .func (PySem.W.fnOf "float_of" "float_of" (defArgs s_float_of) (defBody s_float_of) (defScope s_float_of) .none kV39 dc39 pm39 an39 cd39 ct39), sl39⟩)
    (c39 : PySem.W.codeIn K cd39 "float_of" = true)
    (k39 : PySem.W.keepIn K (.ref f39) = true)
    (a40 : PySem.W.nsIn K mainGlobals "split_by" = some (some (.ref f40)))
    (l40 : K.lookup f40 = some ⟨oc40, od40, .func (PySem.W.fnOf "split_by" "split_by" (defArgs s_split_by) (defBody s_split_by) (defScope s_split_by) .none kV40 dc40 pm40 an40 cd40 ct40), sl40⟩)
    (c40 : PySem.W.codeIn K cd40 "split_by" = true)
    (k40 : PySem.W.keepIn K (.ref f40) = true)
    (a41 : PySem.W.nsIn K mainGlobals "split_sum" = some (some (.ref f41)))
    (l41 : K.lookup f41 = some ⟨oc41, od41, .func (PySem.W.fnOf "split_sum" "split_sum" (defArgs s_split_sum) (defBody s_split_sum) (defScope s_split_sum) .none kV41 dc41 pm41 an41 cd41 ct41), sl41⟩)
    (c41 : PySem.W.codeIn K cd41 "split_sum" = true)
    (k41 : PySem.W.keepIn K (.ref f41) = true)
    (a42 : PySem.W.nsIn K mainGlobals "split_product" = some (some (.ref f42)))
    (l42 : K.lookup f42 = some ⟨oc42, od42, .func (PySem.W.fnOf "split_product" "split_product" (defArgs s_split_product) (defBody s_split_product) (defScope s_split_product) .none kV42 dc42 pm42 an42 cd42 ct42), sl42⟩)
    (c42 : PySem.W.codeIn K cd42 "split_product" = true)
    (k42 : PySem.W.keepIn K (.ref f42) = true)
    (a43 : PySem.W.nsIn K mainGlobals "_law_low" = some (some (.ref f43)))
    (l43 : K.lookup f43 = some ⟨oc43, od43, .func (PySem.W.fnOf "_law_low" "_law_low" (defArgs s_law_low) (defBody s_law_low) (defScope s_law_low) .none kV43 dc43 pm43 an43 cd43 ct43), sl43⟩)
    (c43 : PySem.W.codeIn K cd43 "_law_low" = true)
    (k43 : PySem.W.keepIn K (.ref f43) = true)
    (a44 : PySem.W.nsIn K mainGlobals "_law_sum" = some (some (.ref f44)))
    (l44 : K.lookup f44 = some ⟨oc44, od44, .func (PySem.W.fnOf "_law_sum" "_law_sum" (defArgs s_law_sum) (defBody s_law_sum) (defScope s_law_sum) .none kV44 dc44 pm44 an44 cd44 ct44), sl44⟩)
    (c44 : PySem.W.codeIn K cd44 "_law_sum" = true)
    (k44 : PySem.W.keepIn K (.ref f44) = true)
    (a45 : PySem.W.nsIn K mainGlobals "_law_mixed_up" = some (some (.ref f45)))
    (l45 : K.lookup f45 = some ⟨oc45, od45, .func (PySem.W.fnOf "_law_mixed_up" "_law_mixed_up" (defArgs s_law_mixed_up) (defBody s_law_mixed_up) (defScope s_law_mixed_up) .none kV45 dc45 pm45 an45 cd45 ct45), sl45⟩)
    (c45 : PySem.W.codeIn K cd45 "_law_mixed_up" = true)
    (k45 : PySem.W.keepIn K (.ref f45) = true)
    (a46 : PySem.W.nsIn K mainGlobals "_law_numbers" = some (some (.ref f46)))
    (l46 : K.lookup f46 = some ⟨oc46, od46, .func (PySem.W.fnOf "_law_numbers" "_law_numbers" (defArgs s_law_numbers) (defBody s_law_numbers) (defScope s_law_numbers) .none kV46 dc46 pm46 an46 cd46 ct46), sl46⟩)
    (c46 : PySem.W.codeIn K cd46 "_law_numbers" = true)
    (k46 : PySem.W.keepIn K (.ref f46) = true)
    (a47 : PySem.W.nsIn K mainGlobals "_law_are_parts_right" = some (some (.ref f47)))
    (l47 : K.lookup f47 = some ⟨oc47, od47, .func (PySem.W.fnOf "_law_are_parts_right" "_law_are_parts_right" (defArgs s_law_are_parts_right) (defBody s_law_are_parts_right) (defScope s_law_are_parts_right) .none kV47 dc47 pm47 an47 cd47 ct47), sl47⟩)
    (c47 : PySem.W.codeIn K cd47 "_law_are_parts_right" = true)
    (k47 : PySem.W.keepIn K (.ref f47) = true)
    (a48 : PySem.W.nsIn K mainGlobals "_law_part" = some (some (.ref f48)))
    (l48 : K.lookup f48 = some ⟨oc48, od48, .func (PySem.W.fnOf "_law_part" "_law_part" (defArgs s_law_part) (defBody s_law_part) (defScope s_law_part) .none kV48 dc48 pm48 an48 cd48 ct48), sl48⟩)
    (c48 : PySem.W.codeIn K cd48 "_law_part" = true)
    (k48 : PySem.W.keepIn K (.ref f48) = true)
    (a49 : PySem.W.nsIn K mainGlobals "_law_float" = some (some (.ref f49)))
    (l49 : K.lookup f49 = some ⟨oc49, od49, .func (PySem.W.fnOf "_law_float" "_law_float" (defArgs s_law_float) (defBody s_law_float) (defScope s_law_float) .none kV49 dc49 pm49 an49 cd49 ct49), sl49⟩)
    (c49 : PySem.W.codeIn K cd49 "_law_float" = true)
    (k49 : PySem.W.keepIn K (.ref f49) = true)
    (a50 : PySem.W.nsIn K mainGlobals "_law_wells" = some (some (.ref f50)))
    (l50 : K.lookup f50 = some ⟨oc50, od50, .func (PySem.W.fnOf "_law_wells" "_law_wells" (defArgs s_law_wells) (defBody s_law_wells) (defScope s_law_wells) .none kV50 dc50 pm50 an50 cd50 ct50), sl50⟩)
    (c50 : PySem.W.codeIn K cd50 "_law_wells" = true)
    (k50 : PySem.W.keepIn K (.ref f50) = true)
    (a51 : PySem.W.nsIn K mainGlobals "law" = some (some (.ref f51)))
    (l51 : K.lookup f51 = some ⟨oc51, od51, .func (PySem.W.fnOf "law" "law" (defArgs s_law) (defBody s_law) (defScope s_law) .none kV51 dc51 pm51 an51 cd51 ct51), sl51⟩)
    (c51 : PySem.W.codeIn K cd51 "law" = true)
    (k51 : PySem.W.keepIn K (.ref f51) = true)
    (ne_Float : PySem.W.findIn K (.ref CF) "__ne__" = some (some (.builtin "object.__ne__")))
    (g_InvalidArgument : PySem.W.nsIn K mainGlobals "InvalidArgument" = some (some (.ref CE)))
    (th_made : PySem.W.excInitIn K CE aeMro "ArithmeticError.__new__" = true)
    (th_over : PySem.W.excOver K CE aeMro = true)
    (th_hd : PySem.W.hasDictIn K CE = true)
    (th_sa : PySem.W.findIn K (.ref CE) "__setattr__" = some (some (.builtin "object.__setattr__")))
    (th_ex : PySem.W.subIn K (.ref CE) (.type "BaseException") = some true)
    (th_ty : PySem.W.typeIn K (.ref CE) = some (.type "type"))
    (th_kp : PySem.W.keepIn K (.ref CE) = true)
    (th_ga : PySem.W.findIn K (.ref CE) "__getattribute__" = some (some (.builtin "BaseException.__getattribute__")))
    (th_gg : PySem.W.findIn K (.ref CE) "__getattr__" = some none)
    (xn_part : PySem.W.findIn K (.ref CE) "part" = some none)
    (th_ic : PySem.W.isClsIn K CE = true)
    (th_sc : PySem.W.subIn K (.ref CE) (.ref CE) = some true)
    (g_LuaError : PySem.W.nsIn K mainGlobals "LuaError" = some (some (.ref CL)))
    (le_rd : PySem.W.readsIn K CL (.type "type") = true)
    (le_ga : PySem.W.specialIn K (.ref CL) "__getattribute__" = some (some (.builtin "type.__getattribute__")))
    (le_ty : PySem.W.typeIn K (.ref CL) = some (.type "type"))
    (le_vi : PySem.W.findCls K (.ref CL) (.type "type") "__init__" = some (.val (.builtin "ArithmeticError.__init__")))
    (a99 : PySem.W.findIn K (.ref CE) "__init__" = some (some (.ref f99)))
    (l99 : K.lookup f99 = some ⟨oc99, od99, .func (PySem.W.fnOf "__init__" "InvalidArgument.__init__" (defArgs s_InvalidArgument_init) (defBody s_InvalidArgument_init) (defScope s_InvalidArgument_init) .none kV99 dc99 pm99 an99 cd99 ct99), sl99⟩)
    (c99 : PySem.W.codeIn K cd99 "InvalidArgument.__init__" = true)
    (k99 : PySem.W.keepIn K (.ref f99) = true)
    (i99 : PySem.W.typeIn K (.ref f99) = some (.type "function"))
    : ∃ fd : FuncData, (∀ (s : Shared) (v : Value), BindsTo s fd ⟨[v], []⟩ [("script", v)]) ∧ ∀ base : Heap, K.In base → base.Ns mainGlobals mg → FnOk l.prog w K mg base CX0 20 fa fd ["script"] (spLaw K) := by
  have e := hfa.symm.trans (PySem.W.mg_of X G a51)
  cases e
  have T : AllP K mg CF CE CL := {
    b_isinstance := PySem.W.mg_none_of X G b_isinstance
    b_int := PySem.W.mg_none_of X G b_int
    b_str := PySem.W.mg_none_of X G b_str
    b_bool := PySem.W.mg_none_of X G b_bool
    b_abs := PySem.W.mg_none_of X G b_abs
    b_max := PySem.W.mg_none_of X G b_max
    b_min := PySem.W.mg_none_of X G b_min
    b_divmod := PySem.W.mg_none_of X G b_divmod
    b_len := PySem.W.mg_none_of X G b_len
    b_range := PySem.W.mg_none_of X G b_range
    b_list := PySem.W.mg_none_of X G b_list
    b_tuple := PySem.W.mg_none_of X G b_tuple
    b_all := PySem.W.mg_none_of X G b_all
    b_any := PySem.W.mg_none_of X G b_any
    c_LEAST := ⟨_, PySem.W.mg_of X G c_LEAST⟩
    c_MOST := ⟨_, PySem.W.mg_of X G c_MOST⟩
    c_ROOM := ⟨_, PySem.W.mg_of X G c_ROOM⟩
    c_LOWEST := ⟨_, PySem.W.mg_of X G c_LOWEST⟩
    c_TOO_GREAT := ⟨_, PySem.W.mg_of X G c_TOO_GREAT⟩
    c_HALF_ROOM := ⟨_, PySem.W.mg_of X G c_HALF_ROOM⟩
    c_GREATEST_RANK := ⟨_, PySem.W.mg_of X G c_GREATEST_RANK⟩
    g_Float := PySem.W.mg_of X G g_Float
    l_Float := ⟨pg_Float, hd_Float, po_Float, sa_Float⟩
    y_Float := ⟨yc_Float, y_spec, y_takes, ym_Float⟩
    n_sign := n_sign
    n_top := n_top
    n_power := n_power
    i_Fint := i_Fint
    i_Fbool := i_Fbool
    i_Fstr := i_Fstr
    i_intF := i_intF
    i_boolF := i_boolF
    i_strF := i_strF
    i_nonF := i_nonF
    x_init := ⟨_, _, PySem.W.mg_of X G g_Float, ⟨mk_Float, a1, i1, kc_Float⟩, fun_mk (st := s_Float_init) l1 c1 k1, (fun_mk (st := s_Float_init) l1 c1 k1).binds (fun _ _ _ _ _ _ us hl => match us, hl with | [_, _, _, _], _ => rfl)⟩
    x_is_finite := ⟨_, _, ⟨a2, i2, k2⟩, fun_mk (st := s_Float_is_finite) l2 c2 k2, (fun_mk (st := s_Float_is_finite) l2 c2 k2).binds (fun _ _ _ _ _ _ us hl => match us, hl with | [_], _ => rfl)⟩
    x_ratio := ⟨_, _, ⟨a3, i3, k3⟩, fun_mk (st := s_Float_ratio) l3 c3 k3, (fun_mk (st := s_Float_ratio) l3 c3 k3).binds (fun _ _ _ _ _ _ us hl => match us, hl with | [_], _ => rfl)⟩
    x_eq := ⟨_, _, ⟨a4, i4, k4⟩, fun_mk (st := s_Float_eq) l4 c4 k4, (fun_mk (st := s_Float_eq) l4 c4 k4).binds (fun _ _ _ _ _ _ us hl => match us, hl with | [_, _], _ => rfl)⟩
    x_is_plain := ⟨_, _, PySem.W.mg_of X G a5, fun_mk (st := s_is_plain) l5 c5 k5, (fun_mk (st := s_is_plain) l5 c5 k5).binds (fun _ _ _ _ _ _ us hl => match us, hl with | [_], _ => rfl)⟩
    x_reduced := ⟨_, _, PySem.W.mg_of X G a6, fun_mk (st := s_reduced) l6 c6 k6, (fun_mk (st := s_reduced) l6 c6 k6).binds (fun _ _ _ _ _ _ us hl => match us, hl with | [_, _], _ => rfl)⟩
    x_fits := ⟨_, _, PySem.W.mg_of X G a7, fun_mk (st := s_fits) l7 c7 k7, (fun_mk (st := s_fits) l7 c7 k7).binds (fun _ _ _ _ _ _ us hl => match us, hl with | [_, _], _ => rfl)⟩
    x_sign_of := ⟨_, _, PySem.W.mg_of X G a8, fun_mk (st := s_sign_of) l8 c8 k8, (fun_mk (st := s_sign_of) l8 c8 k8).binds (fun _ _ _ _ _ _ us hl => match us, hl with | [_], _ => rfl)⟩
    x_infinity := ⟨_, _, PySem.W.mg_of X G a9, fun_mk (st := s_infinity) l9 c9 k9, (fun_mk (st := s_infinity) l9 c9 k9).binds (fun _ _ _ _ _ _ us hl => match us, hl with | [_], _ => rfl)⟩
    x_nearest := ⟨_, _, PySem.W.mg_of X G a10, fun_mk (st := s_nearest) l10 c10 k10, (fun_mk (st := s_nearest) l10 c10 k10).binds (fun _ _ _ _ _ _ us hl => match us, hl with | [_, _, _], _ => rfl)⟩
    x_to_float := ⟨_, _, PySem.W.mg_of X G a11, fun_mk (st := s_to_float) l11 c11 k11, (fun_mk (st := s_to_float) l11 c11 k11).binds (fun _ _ _ _ _ _ us hl => match us, hl with | [_], _ => rfl)⟩
    x_well := ⟨_, _, PySem.W.mg_of X G a12, fun_mk (st := s_law_well) l12 c12 k12, (fun_mk (st := s_law_well) l12 c12 k12).binds (fun _ _ _ _ _ _ us hl => match us, hl with | [_], _ => rfl)⟩
    x_draw := ⟨_, _, PySem.W.mg_of X G a13, fun_mk (st := s_law_draw) l13 c13 k13, (fun_mk (st := s_law_draw) l13 c13 k13).binds (fun _ _ _ _ _ _ us hl => match us, hl with | [_, _], _ => rfl)⟩
    x_one := ⟨_, _, PySem.W.mg_of X G a14, fun_mk (st := s_law_one) l14 c14 k14, (fun_mk (st := s_law_one) l14 c14 k14).binds (fun _ _ _ _ _ _ us hl => match us, hl with | [_, _], _ => rfl)⟩
    x_nan := ⟨_, _, PySem.W.mg_of X G a15, fun_mk (st := s_nan) l15 c15 k15, (fun_mk (st := s_nan) l15 c15 k15).binds (fun _ _ _ _ _ _ us hl => match us, hl with | [], _ => rfl)⟩
    x_added := ⟨_, _, PySem.W.mg_of X G a16, fun_mk (st := s_added) l16 c16 k16, (fun_mk (st := s_added) l16 c16 k16).binds (fun _ _ _ _ _ _ us hl => match us, hl with | [_, _], _ => rfl)⟩
    x_multiplied := ⟨_, _, PySem.W.mg_of X G a17, fun_mk (st := s_multiplied) l17 c17 k17, (fun_mk (st := s_multiplied) l17 c17 k17).binds (fun _ _ _ _ _ _ us hl => match us, hl with | [_, _], _ => rfl)⟩
    x_divided := ⟨_, _, PySem.W.mg_of X G a18, fun_mk (st := s_divided) l18 c18 k18, (fun_mk (st := s_divided) l18 c18 k18).binds (fun _ _ _ _ _ _ us hl => match us, hl with | [_, _], _ => rfl)⟩
    x_floored := ⟨_, _, PySem.W.mg_of X G a19, fun_mk (st := s_floored) l19 c19 k19, (fun_mk (st := s_floored) l19 c19 k19).binds (fun _ _ _ _ _ _ us hl => match us, hl with | [_], _ => rfl)⟩
    x_remainder := ⟨_, _, PySem.W.mg_of X G a20, fun_mk (st := s_remainder) l20 c20 k20, (fun_mk (st := s_remainder) l20 c20 k20).binds (fun _ _ _ _ _ _ us hl => match us, hl with | [_, _], _ => rfl)⟩
    x_by_floats := ⟨_, _, PySem.W.mg_of X G a21, fun_mk (st := s_by_floats) l21 c21 k21, (fun_mk (st := s_by_floats) l21 c21 k21).binds (fun _ _ _ _ _ _ us hl => match us, hl with | [_, _, _], _ => rfl)⟩
    x_arith := ⟨_, _, PySem.W.mg_of X G a22, fun_mk (st := s_arith) l22 c22 k22, (fun_mk (st := s_arith) l22 c22 k22).binds (fun _ _ _ _ _ _ us hl => match us, hl with | [_, _, _], _ => rfl)⟩
    x_wrapped := ⟨_, _, PySem.W.mg_of X G a23, fun_mk (st := s_wrapped) l23 c23 k23, (fun_mk (st := s_wrapped) l23 c23 k23).binds (fun _ _ _ _ _ _ us hl => match us, hl with | [_], _ => rfl)⟩
    x_spread_out := ⟨_, _, PySem.W.mg_of X G a24, fun_mk (st := s_spread_out) l24 c24 k24, (fun_mk (st := s_spread_out) l24 c24 k24).binds (fun _ _ _ _ _ _ us hl => match us, hl with | [_], _ => rfl)⟩
    x_rank_of := ⟨_, _, PySem.W.mg_of X G a25, fun_mk (st := s_rank_of) l25 c25 k25, (fun_mk (st := s_rank_of) l25 c25 k25).binds (fun _ _ _ _ _ _ us hl => match us, hl with | [_], _ => rfl)⟩
    x_of_rank := ⟨_, _, PySem.W.mg_of X G a26, fun_mk (st := s_of_rank) l26 c26 k26, (fun_mk (st := s_of_rank) l26 c26 k26).binds (fun _ _ _ _ _ _ us hl => match us, hl with | [_], _ => rfl)⟩
    x_lowered := ⟨_, _, PySem.W.mg_of X G a27, fun_mk (st := s_lowered) l27 c27 k27, (fun_mk (st := s_lowered) l27 c27 k27).binds (fun _ _ _ _ _ _ us hl => match us, hl with | [_, _], _ => rfl)⟩
    x_middle := ⟨_, _, PySem.W.mg_of X G a28, fun_mk (st := s_middle) l28 c28 k28, (fun_mk (st := s_middle) l28 c28 k28).binds (fun _ _ _ _ _ _ us hl => match us, hl with | [_, _], _ => rfl)⟩
    x_value_at := ⟨_, _, PySem.W.mg_of X G a29, fun_mk (st := s_value_at) l29 c29 k29, (fun_mk (st := s_value_at) l29 c29 k29).binds (fun _ _ _ _ _ _ us hl => match us, hl with | [_], _ => rfl)⟩
    x_is_even := ⟨_, _, PySem.W.mg_of X G a30, fun_mk (st := s_is_even) l30 c30 k30, (fun_mk (st := s_is_even) l30 c30 k30).binds (fun _ _ _ _ _ _ us hl => match us, hl with | [_], _ => rfl)⟩
    x_is_finite_float := ⟨_, _, PySem.W.mg_of X G a31, fun_mk (st := s_is_finite_float) l31 c31 k31, (fun_mk (st := s_is_finite_float) l31 c31 k31).binds (fun _ _ _ _ _ _ us hl => match us, hl with | [_], _ => rfl)⟩
    x_check_finite := ⟨_, _, PySem.W.mg_of X G a32, fun_mk (st := s_check_finite) l32 c32 k32, (fun_mk (st := s_check_finite) l32 c32 k32).binds (fun _ _ _ _ _ _ us hl => match us, hl with | [_, _], _ => rfl)⟩
    x_spread := ⟨_, _, PySem.W.mg_of X G a33, fun_mk (st := s_spread) l33 c33 k33, (fun_mk (st := s_spread) l33 c33 k33).binds (fun _ _ _ _ _ _ us hl => match us, hl with | [_], _ => rfl)⟩
    x_is_fraction := ⟨_, _, PySem.W.mg_of X G a34, fun_mk (st := s_is_fraction) l34 c34 k34, (fun_mk (st := s_is_fraction) l34 c34 k34).binds (fun _ _ _ _ _ _ us hl => match us, hl with | [_], _ => rfl)⟩
    x_is_rounded_to := ⟨_, _, PySem.W.mg_of X G a35, fun_mk (st := s_is_rounded_to) l35 c35 k35, (fun_mk (st := s_is_rounded_to) l35 c35 k35).binds (fun _ _ _ _ _ _ us hl => match us, hl with | [_, _], _ => rfl)⟩
    x_is_number := ⟨_, _, PySem.W.mg_of X G a36, fun_mk (st := s_is_number) l36 c36 k36, (fun_mk (st := s_is_number) l36 c36 k36).binds (fun _ _ _ _ _ _ us hl => match us, hl with | [_], _ => rfl)⟩
    x_as_fraction := ⟨_, _, PySem.W.mg_of X G a37, fun_mk (st := s_as_fraction) l37 c37 k37, (fun_mk (st := s_as_fraction) l37 c37 k37).binds (fun _ _ _ _ _ _ us hl => match us, hl with | [_], _ => rfl)⟩
    x_exact_sum := ⟨_, _, PySem.W.mg_of X G a38, fun_mk (st := s_exact_sum) l38 c38 k38, (fun_mk (st := s_exact_sum) l38 c38 k38).binds (fun _ _ _ _ _ _ us hl => match us, hl with | [_], _ => rfl)⟩
    x_float_of := ⟨_, _, PySem.W.mg_of X G a39, fun_mk (st := s_float_of) l39 c39 k39, (fun_mk (st := s_float_of) l39 c39 k39).binds (fun _ _ _ _ _ _ us hl => match us, hl with | [_, _], _ => rfl)⟩
    x_split_by := ⟨_, _, PySem.W.mg_of X G a40, fun_mk (st := s_split_by) l40 c40 k40, (fun_mk (st := s_split_by) l40 c40 k40).binds (fun _ _ _ _ _ _ us hl => match us, hl with | [_, _, _, _], _ => rfl)⟩
    x_split_sum := ⟨_, _, PySem.W.mg_of X G a41, fun_mk (st := s_split_sum) l41 c41 k41, (fun_mk (st := s_split_sum) l41 c41 k41).binds (fun _ _ _ _ _ _ us hl => match us, hl with | [_, _], _ => rfl)⟩
    x_split_product := ⟨_, _, PySem.W.mg_of X G a42, fun_mk (st := s_split_product) l42 c42 k42, (fun_mk (st := s_split_product) l42 c42 k42).binds (fun _ _ _ _ _ _ us hl => match us, hl with | [_, _], _ => rfl)⟩
    x_law_low := ⟨_, _, PySem.W.mg_of X G a43, fun_mk (st := s_law_low) l43 c43 k43, (fun_mk (st := s_law_low) l43 c43 k43).binds (fun _ _ _ _ _ _ us hl => match us, hl with | [_, _], _ => rfl)⟩
    x_law_sum := ⟨_, _, PySem.W.mg_of X G a44, fun_mk (st := s_law_sum) l44 c44 k44, (fun_mk (st := s_law_sum) l44 c44 k44).binds (fun _ _ _ _ _ _ us hl => match us, hl with | [_], _ => rfl)⟩
    x_mixed_up := ⟨_, _, PySem.W.mg_of X G a45, fun_mk (st := s_law_mixed_up) l45 c45 k45, (fun_mk (st := s_law_mixed_up) l45 c45 k45).binds (fun _ _ _ _ _ _ us hl => match us, hl with | [_, _], _ => rfl)⟩
    x_numbers := ⟨_, _, PySem.W.mg_of X G a46, fun_mk (st := s_law_numbers) l46 c46 k46, (fun_mk (st := s_law_numbers) l46 c46 k46).binds (fun _ _ _ _ _ _ us hl => match us, hl with | [_], _ => rfl)⟩
    x_parts := ⟨_, _, PySem.W.mg_of X G a47, fun_mk (st := s_law_are_parts_right) l47 c47 k47, (fun_mk (st := s_law_are_parts_right) l47 c47 k47).binds (fun _ _ _ _ _ _ us hl => match us, hl with | [_, _], _ => rfl)⟩
    x_part := ⟨_, _, PySem.W.mg_of X G a48, fun_mk (st := s_law_part) l48 c48 k48, (fun_mk (st := s_law_part) l48 c48 k48).binds (fun _ _ _ _ _ _ us hl => match us, hl with | [_], _ => rfl)⟩
    x_float := ⟨_, _, PySem.W.mg_of X G a49, fun_mk (st := s_law_float) l49 c49 k49, (fun_mk (st := s_law_float) l49 c49 k49).binds (fun _ _ _ _ _ _ us hl => match us, hl with | [_], _ => rfl)⟩
    x_wells := ⟨_, _, PySem.W.mg_of X G a50, fun_mk (st := s_law_wells) l50 c50 k50, (fun_mk (st := s_law_wells) l50 c50 k50).binds (fun _ _ _ _ _ _ us hl => match us, hl with | [_, _], _ => rfl)⟩
    x_law := ⟨_, _, PySem.W.mg_of X G a51, fun_mk (st := s_law) l51 c51 k51, (fun_mk (st := s_law) l51 c51 k51).binds (fun _ _ _ _ _ _ us hl => match us, hl with | [_], _ => rfl)⟩
    q_Float := ⟨ym_Float, ne_Float⟩
    g_InvalidArgument := PySem.W.mg_of X G g_InvalidArgument
    a_InvalidArgument := ⟨th_made, th_over, th_hd, th_sa, th_ex, th_ty, th_kp⟩
    xf_InvalidArgument := ⟨th_ga, th_gg, th_ex, th_hd⟩
    xn_part := xn_part
    e_InvalidArgument := exm_own th_ex th_ic th_ty th_sc
    g_LuaError := PySem.W.mg_of X G g_LuaError
    r_LuaError := ⟨le_rd, le_ga, le_ty, le_vi⟩
  }
  exact ⟨PySem.W.fnOf "law" "law" (defArgs s_law) (defBody s_law) (defScope s_law) .none kV51 dc51 pm51 an51 cd51 ct51, fun s v => .of_eq rfl, fun base _ _ => ok_all T (ia_kn T (fun_mk (st := s_InvalidArgument_init) l99 c99 k99) ((fun_mk (st := s_InvalidArgument_init) l99 c99 k99).binds (fun _ _ _ _ _ _ us hl => match us, hl with | [_, _], _ => rfl)) a99 i99) (fun_mk (st := s_law) l51 c51 k51)⟩
end Nu

open PySem PySem.W PyProof.Rows
set_option Elab.async false
set_option maxRecDepth 100000
set_option maxHeartbeats 0
open_top hd93 for PySem.Challenge.rw_walkmade_k93_whole_exact_sums
theorem PySem.Challenge.cw_walkmade_k93_whole_exact_sums_holds : PySem.Challenge.rw_walkmade_k93_whole_exact_sums.Holds :=
  hd93 (by
  k_fill
  refine L2.walk_ofB (l := PySem.Challenge.rw_walkmade_k93_whole_exact_sums) (n := 63) (k := 20) (x := "script") (CX := fun _ => L2.CX0) (sp := fun w => Nu.spLaw (hd93.heap_39 w.params)) rfl (by decide) rfl ⟨rfl, by decide, by decide⟩ (fun w h Y => PySem.W.kIn_of Y) ?F
    (fun w H a ns h1 h2 _ h4 => ⟨a, ns, rfl, h4, h1, fun z hz => Int.ofNat_le.2 (h2 z hz), fun _ => rfl⟩) (fun _ _ _ _ _ z => z)
  case F =>
    intro w mg fa h KX G hmg
    refine' Nu.fin_mk KX G hmg ?b_isinstance ?b_int ?b_str ?b_bool ?b_abs ?b_max ?b_min ?b_divmod ?b_len ?b_range ?b_list ?b_tuple ?b_all ?b_any ?c_LEAST ?c_MOST ?c_ROOM ?c_LOWEST ?c_TOO_GREAT ?c_HALF_ROOM ?c_GREATEST_RANK ?g_Float ?pg_Float ?hd_Float ?po_Float ?sa_Float ?yc_Float ?ym_Float ?n_sign ?n_top ?n_power ?i_Fint ?i_Fbool ?i_Fstr ?i_intF ?i_boolF ?i_strF ?i_nonF ?mk_Float ?kc_Float ?y_spec ?y_takes ?a1 ?l1 ?c1 ?k1 ?i1 ?a2 ?l2 ?c2 ?k2 ?i2 ?a3 ?l3 ?c3 ?k3 ?i3 ?a4 ?l4 ?c4 ?k4 ?i4 ?a5 ?l5 ?c5 ?k5 ?a6 ?l6 ?c6 ?k6 ?a7 ?l7 ?c7 ?k7 ?a8 ?l8 ?c8 ?k8 ?a9 ?l9 ?c9 ?k9 ?a10 ?l10 ?c10 ?k10 ?a11 ?l11 ?c11 ?k11 ?a12 ?l12 ?c12 ?k12 ?a13 ?l13 ?c13 ?k13 ?a14 ?l14 ?c14 ?k14 ?a15 ?l15 ?c15 ?k15 ?a16 ?l16 ?c16 ?k16 ?a17 ?l17 ?c17 ?k17 ?a18 ?l18 ?c18 ?k18 ?a19 ?l19 ?c19 ?k19 ?a20 ?l20 ?c20 ?k20 ?a21 ?l21 ?c21 ?k21 ?a22 ?l22 ?c22 ?k22 ?a23 ?l23 ?c23 ?k23 ?a24 ?l24 ?c24 ?k24 ?a25 ?l25 ?c25 ?k25 ?a26 ?l26 ?c26 ?k26 ?a27 ?l27 ?c27 ?k27 ?a28 ?l28 ?c28 ?k28 ?a29 ?l29 ?c29 ?k29 ?a30 ?l30 ?c30 ?k30 ?a31 ?l31 ?c31 ?k31 ?a32 ?l32 ?c32 ?k32 ?a33 ?l33 ?c33 ?k33 ?a34 ?l34 ?c34 ?k34 ?a35 ?l35 ?c35 ?k35 ?a36 ?l36 ?c36 ?k36 ?a37 ?l37 ?c37 ?k37 ?a38 ?l38 ?c38 ?k38 ?a39 ?l39 ?c39 ?k39 ?a40 ?l40 ?c40 ?k40 ?a41 ?l41 ?c41 ?k41 ?a42 ?l42 ?c42 ?k42 ?a43 ?l43 ?c43 ?k43 ?a44 ?l44 ?c44 ?k44 ?a45 ?l45 ?c45 ?k45 ?a46 ?l46 ?c46 ?k46 ?a47 ?l47 ?c47 ?k47 ?a48 ?l48 ?c48 ?k48 ?a49 ?l49 ?c49 ?k49 ?a50 ?l50 ?c50 ?k50 ?a51 ?l51 ?c51 ?k51 ?ne_Float ?g_InvalidArgument ?th_made ?th_over ?th_hd ?th_sa ?th_ex ?th_ty ?th_kp ?th_ga ?th_gg ?xn_part ?th_ic ?th_sc ?g_LuaError ?le_rd ?le_ga ?le_ty ?le_vi ?a99 ?l99 ?c99 ?k99 ?i99
    (case b_isinstance => k_is)
    (case b_int => k_is)
    (case b_str => k_is)
    (case b_bool => k_is)
    (case b_abs => k_is)
    (case b_max => k_is)
    (case b_min => k_is)
    (case b_divmod => k_is)
    (case b_len => k_is)
    (case b_range => k_is)
    (case b_list => k_is)
    (case b_tuple => k_is)
    (case b_all => k_is)
    (case b_any => k_is)
    (case c_LEAST => k_is)
    (case c_MOST => k_is)
    (case c_ROOM => k_is)
    (case c_LOWEST => k_is)
    (case c_TOO_GREAT => k_is)
    (case c_HALF_ROOM => k_is)
    (case c_GREATEST_RANK => k_is)
    (case g_Float => k_is)
    (case pg_Float => k_is)
    (case hd_Float => k_is)
    (case po_Float => k_is)
    (case sa_Float => k_is)
    (case yc_Float => k_is)
    (case ym_Float => k_is)
    (case n_sign => k_is)
    (case n_top => k_is)
    (case n_power => k_is)
    (case i_Fint => kit_is)
    (case i_Fbool => kit_is)
    (case i_Fstr => kit_is)
    (case i_intF => kit_is)
    (case i_boolF => kit_is)
    (case i_strF => kit_is)
    (case i_nonF => kit_is)
    (case mk_Float => k_is)
    (case kc_Float => k_is)
    (case y_spec => k_is)
    (case y_takes => k_is)
    (case a1 => k_is)
    (case l1 => k_is)
    (case c1 => k_is)
    (case k1 => k_is)
    (case i1 => k_is)
    (case a2 => k_is)
    (case l2 => k_is)
    (case c2 => k_is)
    (case k2 => k_is)
    (case i2 => k_is)
    (case a3 => k_is)
    (case l3 => k_is)
    (case c3 => k_is)
    (case k3 => k_is)
    (case i3 => k_is)
    (case a4 => k_is)
    (case l4 => k_is)
    (case c4 => k_is)
    (case k4 => k_is)
    (case i4 => k_is)
    (case a5 => k_is)
    (case l5 => k_is)
    (case c5 => k_is)
    (case k5 => k_is)
    (case a6 => k_is)
    (case l6 => k_is)
    (case c6 => k_is)
    (case k6 => k_is)
    (case a7 => k_is)
    (case l7 => k_is)
    (case c7 => k_is)
    (case k7 => k_is)
    (case a8 => k_is)
    (case l8 => k_is)
    (case c8 => k_is)
    (case k8 => k_is)
    (case a9 => k_is)
    (case l9 => k_is)
    (case c9 => k_is)
    (case k9 => k_is)
    (case a10 => k_is)
    (case l10 => k_is)
    (case c10 => k_is)
    (case k10 => k_is)
    (case a11 => k_is)
    (case l11 => k_is)
    (case c11 => k_is)
    (case k11 => k_is)
    (case a12 => k_is)
    (case l12 => k_is)
    (case c12 => k_is)
    (case k12 => k_is)
    (case a13 => k_is)
    (case l13 => k_is)
    (case c13 => k_is)
    (case k13 => k_is)
    (case a14 => k_is)
    (case l14 => k_is)
    (case c14 => k_is)
    (case k14 => k_is)
    (case a15 => k_is)
    (case l15 => k_is)
    (case c15 => k_is)
    (case k15 => k_is)
    (case a16 => k_is)
    (case l16 => k_is)
    (case c16 => k_is)
    (case k16 => k_is)
    (case a17 => k_is)
    (case l17 => k_is)
    (case c17 => k_is)
    (case k17 => k_is)
    (case a18 => k_is)
    (case l18 => k_is)
    (case c18 => k_is)
    (case k18 => k_is)
    (case a19 => k_is)
    (case l19 => k_is)
    (case c19 => k_is)
    (case k19 => k_is)
    (case a20 => k_is)
    (case l20 => k_is)
    (case c20 => k_is)
    (case k20 => k_is)
    (case a21 => k_is)
    (case l21 => k_is)
    (case c21 => k_is)
    (case k21 => k_is)
    (case a22 => k_is)
    (case l22 => k_is)
    (case c22 => k_is)
    (case k22 => k_is)
    (case a23 => k_is)
    (case l23 => k_is)
    (case c23 => k_is)
    (case k23 => k_is)
    (case a24 => k_is)
    (case l24 => k_is)
    (case c24 => k_is)
    (case k24 => k_is)
    (case a25 => k_is)
    (case l25 => k_is)
    (case c25 => k_is)
    (case k25 => k_is)
    (case a26 => k_is)
    (case l26 => k_is)
    (case c26 => k_is)
    (case k26 => k_is)
    (case a27 => k_is)
    (case l27 => k_is)
    (case c27 => k_is)
    (case k27 => k_is)
    (case a28 => k_is)
    (case l28 => k_is)
    (case c28 => k_is)
    (case k28 => k_is)
    (case a29 => k_is)
    (case l29 => k_is)
    (case c29 => k_is)
    (case k29 => k_is)
    (case a30 => k_is)
    (case l30 => k_is)
    (case c30 => k_is)
    (case k30 => k_is)
    (case a31 => k_is)
    (case l31 => k_is)
    (case c31 => k_is)
    (case k31 => k_is)
    (case a32 => k_is)
    (case l32 => k_is)
    (case c32 => k_is)
    (case k32 => k_is)
    (case a33 => k_is)
    (case l33 => k_is)
    (case c33 => k_is)
    (case k33 => k_is)
    (case a34 => k_is)
    (case l34 => k_is)
    (case c34 => k_is)
    (case k34 => k_is)
    (case a35 => k_is)
    (case l35 => k_is)
    (case c35 => k_is)
    (case k35 => k_is)
    (case a36 => k_is)
    (case l36 => k_is)
    (case c36 => k_is)
    (case k36 => k_is)
    (case a37 => k_is)
    (case l37 => k_is)
    (case c37 => k_is)
    (case k37 => k_is)
    (case a38 => k_is)
    (case l38 => k_is)
    (case c38 => k_is)
    (case k38 => k_is)
    (case a39 => k_is)
    (case l39 => k_is)
    (case c39 => k_is)
    (case k39 => k_is)
    (case a40 => k_is)
    (case l40 => k_is)
    (case c40 => k_is)
    (case k40 => k_is)
    (case a41 => k_is)
    (case l41 => k_is)
    (case c41 => k_is)
    (case k41 => k_is)
    (case a42 => k_is)
    (case l42 => k_is)
    (case c42 => k_is)
    (case k42 => k_is)
    (case a43 => k_is)
    (case l43 => k_is)
    (case c43 => k_is)
    (case k43 => k_is)
    (case a44 => k_is)
    (case l44 => k_is)
    (case c44 => k_is)
    (case k44 => k_is)
    (case a45 => k_is)
    (case l45 => k_is)
    (case c45 => k_is)
    (case k45 => k_is)
    (case a46 => k_is)
    (case l46 => k_is)
    (case c46 => k_is)
    (case k46 => k_is)
    (case a47 => k_is)
    (case l47 => k_is)
    (case c47 => k_is)
    (case k47 => k_is)
    (case a48 => k_is)
    (case l48 => k_is)
    (case c48 => k_is)
    (case k48 => k_is)
    (case a49 => k_is)
    (case l49 => k_is)
    (case c49 => k_is)
    (case k49 => k_is)
    (case a50 => k_is)
    (case l50 => k_is)
    (case c50 => k_is)
    (case k50 => k_is)
    (case a51 => k_is)
    (case l51 => k_is)
    (case c51 => k_is)
    (case k51 => k_is)
    (case ne_Float => k_is)
    (case g_InvalidArgument => k_is)
    (case th_made => kx_is)
    (case th_over => kx_is)
    (case th_hd => k_is)
    (case th_sa => k_is)
    (case th_ex => k_is)
    (case th_ty => k_is)
    (case th_kp => k_is)
    (case th_ga => k_is)
    (case th_gg => k_is)
    (case xn_part => k_is)
    (case th_ic => k_is)
    (case th_sc => first | rfl | k_is)
    (case g_LuaError => k_is)
    (case le_rd => k_is)
    (case le_ga => k_is)
    (case le_ty => k_is)
    (case le_vi => k_is)
    (case a99 => k_is)
    (case l99 => k_is)
    (case c99 => k_is)
    (case k99 => k_is)
    (case i99 => k_is)
  )
