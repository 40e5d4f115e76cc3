import PyProof.Rows.All
import Wide.All
import OpenK.AllK
import Wide.FinOn
import HandS.ForMost
import HandS.WideBits
import HandS.IsInst
import HandS.EndBits
import HandS.Codes
import HandS.Defaults
import KE.IntBitsLaws
import HandS.More
import PyProof.InstEq
import HandS.Style
import HandS.OwnEq
import HandS.ExcInit
import HandS.ExcField
import HandS.TryOnly
import KE.KExcInit
import PyProof.ExcBaseAll.ArithmeticError
import HandS.WordsExc
import PyProof.Seq
import PySem.Challenge.RW_walkmade_k03_whole_quotients_and_what_is
import KE.RegKIsAll
import KE.KExcLine
set_option Elab.async false
set_option linter.all false
set_option maxRecDepth 100000
set_option maxHeartbeats 4000000
/-! Readings by steps that look at the head of the goal alone. -/
namespace Rd
open PySem PySem.Spec PyProof.Rows L2

/-! ### defs of the text, packed -/
/-- the def x of the text st stands in the module -/
structure Tx (K : PySem.W.Frag) (mg : Str → Option Value) (x n : Str) (st : Stmt) (ps : List Str) : Prop where
  ex : ∃ f fd, mg x = some (.ref f) ∧ Fun K n n st f fd ∧ Binds K fd ps []
/-- the def x keeps its promise -/
structure Kn (P : Program) (w : World) (K : PySem.W.Frag) (mg : Str → Option Value) (base : Heap) (CX : CXT) (k : Nat) (x : Str) (ps : List Str) (sp : Sp) : Prop where
  ex : ∃ f fd, mg x = some (.ref f) ∧ PySem.W.keepIn K (.ref f) = true ∧ Binds K fd ps [] ∧ FnOk P w K mg base CX k f fd ps sp
/-- a method m of the class at C -/
structure KnM (P : Program) (w : World) (K : PySem.W.Frag) (mg : Str → Option Value) (base : Heap) (CX : CXT) (k : Nat) (C : Addr) (m : Str) (ps : List Str) (sp : Sp) : Prop where
  ex : ∃ f fd, Meth K C m f ∧ Binds K fd ps [] ∧ FnOk P w K mg base CX k f fd ps sp
/-- a class whose __init__ keeps its promise -/
structure KnC (P : Program) (w : World) (K : PySem.W.Frag) (mg : Str → Option Value) (base : Heap) (CX : CXT) (k : Nat) (x : Str) (C : Addr) (ps : List Str) (sp : Sp) : Prop where
  ex : ∃ f fd, mg x = some (.ref C) ∧ Mk K C f ∧ Binds K fd ps [] ∧ FnOk P w K mg base CX k f fd ps sp
/-- a method of the text -/
structure TxM (K : PySem.W.Frag) (C : Addr) (m qual : Str) (st : Stmt) (ps : List Str) : Prop where
  ex : ∃ f fd, Meth K C m f ∧ Fun K m qual st f fd ∧ Binds K fd ps []
structure TxC (K : PySem.W.Frag) (mg : Str → Option Value) (x : Str) (C : Addr) (qual : Str) (st : Stmt) (ps : List Str) : Prop where
  ex : ∃ f fd, mg x = some (.ref C) ∧ Mk K C f ∧ Fun K "__init__" qual st f fd ∧ Binds K fd ps []

section
variable {P : Program} {w : World} {K : PySem.W.Frag} {mg : Str → Option Value} {base : Heap} {CX : CXT} {k : Nat} {x : Str} {ps : List Str} {sp : Sp}
theorem Kn.mono (h : Kn P w K mg base CX k x ps sp) {j : Nat} (hj : k ≤ j) : Kn P w K mg base CX j x ps sp :=
  let ⟨f, fd, a, b, c, d⟩ := h.ex
  ⟨f, fd, a, b, c, d.mono hj⟩
theorem Tx.kn {n : Str} {st : Stmt} (t : Tx K mg x n st ps) (h : ∀ f fd, Fun K n n st f fd → FnOk P w K mg base CX k f fd ps sp) : Kn P w K mg base CX k x ps sp :=
  let ⟨f, fd, a, b, c⟩ := t.ex
  ⟨f, fd, a, b.kp, c, h f fd b⟩
theorem TxM.kn {C : Addr} {m qual : Str} {st : Stmt} (t : TxM K C m qual st ps) (h : ∀ f fd, Fun K m qual st f fd → FnOk P w K mg base CX k f fd ps sp) : KnM P w K mg base CX k C m ps sp :=
  let ⟨f, fd, a, b, c⟩ := t.ex
  ⟨f, fd, a, c, h f fd b⟩
theorem TxC.kn {C : Addr} {qual : Str} {st : Stmt} (t : TxC K mg x C qual st ps) (h : ∀ f fd, Fun K "__init__" qual st f fd → FnOk P w K mg base CX k f fd ps sp) : KnC P w K mg base CX k x C ps sp :=
  let ⟨f, fd, a, b, c, d⟩ := t.ex
  ⟨f, fd, a, b, d, h f fd c⟩
end
section
variable {X : Cx} {k j : Nat} {x : Str} {ps : List Str} {sp : Sp} {p pos apos : Pos} {e o : Expr} {es : List Expr} {t : TA} {ta : TE} {C : Addr} {m : Str}
/-- f(e, ..) -/
theorem pk (h : Kn X.prog X.w X.K X.mg X.base CX0 k x ps sp) (hr : Room j X.A) (ha : PA X (e :: es) t) (hj : k ≤ j := by decide) (hg : Gl X x := by rfl) (hdb : (x == ("__debug__" : Str)) = false := by decide)
    (he : starEach (e :: es) X.env = (false, eval e X.env) :: starEach es X.env := by rfl) (hpl : (backTo pos (starEach es X.env)).any (·.1) = false := by rfl) : PE X (.Call (.Name x p) (e :: es) [] pos) (tCall sp [] E0 t) := by
  obtain ⟨f, fd, a, b, c, d⟩ := h.ex
  exact pe_call d (hr.mono hj) hg a b c .nil pass0 ha hdb he hpl
theorem pk0 (h : Kn X.prog X.w X.K X.mg X.base CX0 k x ps sp) (hr : Room j X.A) (hj : k ≤ j := by decide) (hg : Gl X x := by rfl) (hdb : (x == ("__debug__" : Str)) = false := by decide) : PE X (.Call (.Name x p) [] [] pos) (tCall sp [] E0 tNil) := by
  obtain ⟨f, fd, a, b, c, d⟩ := h.ex
  exact pe_call0 d (hr.mono hj) hg a b c .nil pass0 hdb
/-- C(e, ..) -/
theorem pkC (h : KnC X.prog X.w X.K X.mg X.base CX0 k x C ps sp) (hr : Room j X.A) (ha : PA X (e :: es) t) (hj : k + 1 ≤ j := by decide) (hg : Gl X x := by rfl) (hdb : (x == ("__debug__" : Str)) = false := by decide)
    (he : starEach (e :: es) X.env = (false, eval e X.env) :: starEach es X.env := by rfl) (hpl : (backTo pos (starEach es X.env)).any (·.1) = false := by rfl) : PE X (.Call (.Name x p) (e :: es) [] pos) (tMake C sp [] E0 t) := by
  obtain ⟨f, fd, a, b, c, d⟩ := h.ex
  exact pe_make b d (hr.mono hj) hg a c .nil pass0 ha hdb he hpl
/-- o.m() -/
theorem pkM0 (h : KnM X.prog X.w X.K X.mg X.base CX0 k C m ps sp) (cl : Cls X.K C) (hr : Room j X.A) (ho : PE X o ta) {pl : Sem Bool}
    (ht : eval (.Call (.Attribute o m apos) [] [] pos) X.env = (do
      let ov ← eval o X.env
      standAt apos.atName
      let (f, first) ← holding [ov] (getMethod ov m pl)
      callWith pos f first (backTo pos (starEach [] X.env)) (backToKw pos (keywordEach [] X.env)))) (hj : k ≤ j := by decide) :
    PE X (.Call (.Attribute o m apos) [] [] pos) (tMeth C m sp [] E0 ta tNil) := by
  obtain ⟨f, fd, a, b, d⟩ := h.ex
  exact pe_meth0 ho cl a d (hr.mono hj) b .nil pass0 ht
/-- a class or a constant of the module, as a value -/
theorem pg (x : Str) {v : V} {u : Value} (hm : X.mg x = some u) (r : RelV v u) (hg : Gl X x := by rfl) (hd : (x == ("__debug__" : Str)) = false := by decide) : PE X (.Name x pos) (tC v) := pe_glob hg hm r hd
end
/-- v is .int, .str, .non, .bl -/
theorem rty (n : String) : RelV (.ty n) (.type n) := rfl
theorem rref (a : Addr) : RelV (.ref a) (.ref a) := rfl

/-! ### what is wanted, by the head of the goal -/
section
variable {σ : L2.St} {H : Hp} {Q : VK} {ta tb te : TE} {x y v : V} {r : R2} {K : PySem.W.Frag}
theorem w_var {i : Nat} (h : σ[i]? = some (some v)) (q : Q v H) : tVar i σ H Q := ⟨v, h, q⟩
theorem w_c (q : Q v H) : tC v σ H Q := q
theorem w_op (h : ta σ H fun x H1 => tb σ H1 fun y H2 => r x y H2 Q) : tOp r ta tb σ H Q := h
theorem w_un {r : V → Hp → VK → Prop} (h : ta σ H fun x H1 => r x H1 Q) : tUn r ta σ H Q := h
theorem w_I0 {g : Int → Int → V} {i j : Int} (q : Q (g i j) H) : rI0 g (.int i) (.int j) H Q := ⟨i, j, rfl, rfl, q⟩
theorem w_I {C : Int → Int → Prop} {g : Int → Int → V} {i j : Int} (c : C i j) (q : Q (g i j) H) : rI C g (.int i) (.int j) H Q := ⟨i, j, rfl, rfl, c, q⟩
theorem w_U {g : Int → V} {i : Int} (q : Q (g i) H) : rU g (.int i) H Q := ⟨i, rfl, q⟩
theorem w_eq (s : scal x y = true) (q : Q (.bl (decide (x = y))) H) : rEq x y H Q := ⟨s, q⟩
theorem w_ne (s : scal x y = true) (q : Q (.bl (!decide (x = y))) H) : rNe x y H Q := ⟨s, q⟩
theorem w_bits (h : te σ H fun x H1 => ∃ i, x = .int i ∧ Q (.int (Builtin.Int.intBits i : Nat)) H1) : tBits te σ H Q := h
theorem w_bitsI {R : Int → Prop} {i : Int} (q : R i) : ∃ i', V.int i = .int i' ∧ R i' := ⟨i, rfl, q⟩
def TupK (xs : List V) (H : Hp) (Q : VK) : Prop := xs.length ≤ sizeLine ∧ ∀ p, H p = none → Q (.ref p) (upd H p (.tup xs))
def LstK (xs : List V) (H : Hp) (Q : VK) : Prop := xs.length ≤ sizeLine ∧ ∀ p, H p = none → Q (.ref p) (upd H p (.lst xs))
theorem w_tup {t : TA} (h : t σ H fun xs H1 => TupK xs H1 Q) : tTup t σ H Q := h
theorem w_lst {t : TA} (h : t σ H fun xs H1 => LstK xs H1 Q) : tLst t σ H Q := h
theorem w_nil {Q : List V → Hp → Prop} (q : Q [] H) : tNil σ H Q := q
theorem w_cons {ta : TE} {tr : TA} {Q : List V → Hp → Prop} (h : ta σ H fun x H1 => tr σ H1 fun xs H2 => Q (x :: xs) H2) : tCons ta tr σ H Q := h
theorem w_fld {f : Str} (h : ta σ H fun x H1 => ∃ a C dx fs v, x = .ref a ∧ H1 a = some (.ins C dx fs) ∧ Cls K C ∧ NoAttr K C f ∧ fs.lookup f = some v ∧ Q v H1) : tFld K ta f σ H Q := h
theorem w_fldI {R : V → Prop} {f : Str} {a C dx : Addr} {fs : List (Str × V)} (ho : H a = some (.ins C dx fs)) (c : Cls K C) (n : NoAttr K C f) (l : fs.lookup f = some v) (q : R v) :
    ∃ a' C dx fs v, V.ref a = .ref a' ∧ H a' = some (.ins C dx fs) ∧ Cls K C ∧ NoAttr K C f ∧ fs.lookup f = some v ∧ R v := ⟨a, C, dx, fs, v, rfl, ho, c, n, l, q⟩
theorem w_sfI {R : Addr → Addr → List (Str × V) → Addr → Prop} {f : Str} {a C dx : Addr} {fs : List (Str × V)} (ho : H a = some (.ins C dx fs)) (c : Cls K C) (n : NoAttr K C f) (l : fs.length < 1000) (q : R a dx fs C) :
    ∃ a' C dx fs, V.ref a = .ref a' ∧ H a' = some (.ins C dx fs) ∧ Cls K C ∧ NoAttr K C f ∧ fs.length < 1000 ∧ R a' dx fs C := ⟨a, C, dx, fs, rfl, ho, c, n, l, q⟩
theorem w_call {sp : Sp} {dvs : List V} {E : XK} {t : TA} (h : t σ H fun vs H1 => sp (vs ++ dvs) H1 Q E) : tCall sp dvs E t σ H Q := h
def MakeK (C : Addr) (sp : Sp) (vs : List V) (H1 : Hp) (Q : VK) (E : XK) : Prop := ∀ x dx, H1 x = none → H1 dx = none → dx ≠ x → sp (.ref x :: (vs ++ [])) (upd (upd H1 dx (.own x)) x (.ins C dx [])) (fun v H2 => v = .non ∧ Q (.ref x) H2) E
theorem w_make {C : Addr} {sp : Sp} {E : XK} {t : TA} (h : t σ H fun vs H1 => MakeK C sp vs H1 Q E) : tMake C sp [] E t σ H Q := h
theorem w_cb {r : List V → Hp → VK → Prop} {t : TA} (h : t σ H fun vs H1 => r vs H1 Q) : tCB r t σ H Q := h
theorem w_bl {R : Bool → Prop} {k : Bool} (q : R k) : ∃ k', V.bl k = .bl k' ∧ R k' := ⟨k, rfl, q⟩
theorem w_test {Q : Bool → Hp → Prop} (h : te σ H fun x H' => ∃ k, x = .bl k ∧ Q k H') : tTest te σ H Q := h
theorem w_B {Q : Bool → Hp → Prop} (h : te σ H fun x H' => ∃ k, x = .bl k ∧ Q k H') : tB te σ H Q := h
theorem w_andV (h : ta σ H fun x H1 => ∃ c, x = .bl c ∧ if c = true then tb σ H1 Q else Q (.bl false) H1) : tAndV ta tb σ H Q := h
theorem w_orV (h : ta σ H fun x H1 => ∃ c, x = .bl c ∧ if c = true then Q (.bl true) H1 else tb σ H1 Q) : tOrV ta tb σ H Q := h
theorem w_notV (h : ta σ H fun x H1 => ∃ c, x = .bl c ∧ Q (.bl (!c)) H1) : tNotV ta σ H Q := h
theorem w_and {t u : TT} {Q : Bool → Hp → Prop} (h : t σ H fun c H1 => if c = true then u σ H1 Q else Q false H1) : tAnd t u σ H Q := h
theorem w_or {t u : TT} {Q : Bool → Hp → Prop} (h : t σ H fun c H1 => if c = true then Q true H1 else u σ H1 Q) : tOr t u σ H Q := h
theorem w_not {t : TT} {Q : Bool → Hp → Prop} (h : t σ H fun c H1 => Q (!c) H1) : tNot t σ H Q := h
theorem w_if {t : TT} (h : t σ H fun c H1 => if c = true then ta σ H1 Q else tb σ H1 Q) : tIf t ta tb σ H Q := h
theorem w_isi {x c : V} {t u : Value} {b : Bool} (k : ClsV c u) (ty : TyX K H x t) (e : PySem.W.kitOne K t u = some b) (q : Q (.bl b) H) : rIsi K [x, c] H Q := ⟨x, c, t, u, b, rfl, k, ty, e, q⟩
/-! statements -/
variable {D : Ends} {t u : TS} {n bk ct : L2.St → Hp → Prop} {rt : VK}
theorem w_nx (q : n σ H) : (Ends.mk n rt bk ct).nx σ H := q
theorem w_rt (q : rt v H) : (Ends.mk n rt bk ct).rt v H := q
theorem w_bk (q : bk σ H) : (Ends.mk n rt bk ct).bk σ H := q
theorem w_ct (q : ct σ H) : (Ends.mk n rt bk ct).ct σ H := q
theorem w_seq (h : t { D with nx := u D } σ H) : tSeq t u D σ H := h
theorem w_cut {Mid : L2.St → Hp → Prop} (h1 : t { D with nx := Mid } σ H) (h2 : ∀ σ' H', Mid σ' H' → u D σ' H') : C8.tCut t u D σ H := ⟨Mid, h1, h2⟩
theorem w_next (h : D.nx σ H) : tNext D σ H := h
theorem w_brk (h : D.bk σ H) : tBreak D σ H := h
theorem w_cont (h : D.ct σ H) : tCont D σ H := h
theorem w_ret (h : te σ H D.rt) : tRet te D σ H := h
theorem w_ifS {c : TT} (h : c σ H fun b H1 => if b = true then t D σ H1 else u D σ H1) : tIfS c t u D σ H := h
theorem w_asg {g : TG} (h : te σ H fun x H1 => g x σ H1 D.nx) : tAsg te g D σ H := h
theorem w_name {i : Nat} {Q : L2.St → Hp → Prop} (h : Q (σ.set i (some v)) H) : gName i v σ H Q := h
theorem w_par {i j : Nat} {ta : TA} (h : ta σ H fun vs H1 => ∃ v w, vs = [v, w] ∧ D.nx ((σ.set i (some v)).set j (some w)) H1) : tPar i j ta D σ H := h
theorem w_parI {R : V → V → Prop} {v w : V} (h : R v w) : ∃ v' w', [v, w] = [v', w'] ∧ R v' w' := ⟨v, w, rfl, h⟩
theorem w_ii {R : Int → Int → Prop} {a b : Int} (h : R a b) : ∃ i j, [V.int a, V.int b] = [V.int i, V.int j] ∧ R i j := ⟨a, b, rfl, h⟩
theorem w_i1 {R : Int → Prop} {a : Int} (h : R a) : ∃ i, [V.int a] = [V.int i] ∧ R i := ⟨a, rfl, h⟩
theorem w_drop (h : te σ H fun _ H1 => D.nx σ H1) : tDrop te D σ H := h
theorem w_sFld {tv : TE} {f : Str} (h : tv σ H fun y H1 => ta σ H1 fun x H2 => ∃ a C dx fs, x = .ref a ∧ H2 a = some (.ins C dx fs) ∧ Cls K C ∧ NoAttr K C f ∧ fs.length < 1000 ∧ D.nx σ (upd H2 a (.ins C dx (putF f y fs)))) : sFld K ta tv f D σ H := h
theorem iT {A B : Prop} (h : A) : if true = true then A else B := by rw [if_pos rfl]; exact h
theorem iF {A B : Prop} (h : B) : if false = true then A else B := by rw [if_neg Bool.false_ne_true]; exact h
theorem iD {c : Prop} [Decidable c] {A B : Prop} (h1 : c → A) (h2 : ¬ c → B) : if decide c = true then A else B := by
  by_cases h : c
  · rw [decide_eq_true h]; exact iT (h1 h)
  · rw [decide_eq_false h]; exact iF (h2 h)
theorem iN {c : Prop} [Decidable c] {A B : Prop} (h1 : ¬ c → A) (h2 : c → B) : if (!decide c) = true then A else B := by
  by_cases h : c
  · rw [decide_eq_true h]; exact iF (h2 h)
  · rw [decide_eq_false h]; exact iT (h1 h)
theorem iB {b : Bool} {A B : Prop} (h1 : b = true → A) (h2 : b = false → B) : if b = true then A else B := by
  cases b with
  | true => exact iT (h1 rfl)
  | false => exact iF (h2 rfl)
end
end Rd
open Rd L2 in
section
local macro_rules | `(tactic| walk_at "rd") => `(tactic| first
  | with_reducible refine w_var rfl ?_
  | with_reducible refine w_c ?_
  | with_reducible refine w_op ?_)
end

set_option Elab.async false
set_option linter.all false
set_option maxRecDepth 100000
set_option maxHeartbeats 4000000
/-! The numbers of the program as plain functions. -/
namespace Nu
open PySem L2
abbrev bits (n : Int) : Int := (Builtin.Int.intBits n : Nat)
theorem bits_nn (n : Int) : 0 ≤ bits n := Int.natCast_nonneg _
theorem bits_le {n : Int} {k : Nat} : bits n ≤ k ↔ n.natAbs < 2 ^ k := by
  unfold bits
  rw [Int.ofNat_le]
  exact PySem.intBits_le_iff
theorem bits_zero : bits 0 = 0 := rfl
theorem pow_pos2 (k : Nat) : (0 : Int) < 2 ^ k := Int.pow_pos (by decide)
theorem pow_mono {a b : Nat} (h : a ≤ b) : (2 : Int) ^ a ≤ 2 ^ b := by
  have e : b = a + (b - a) := by omega
  rw [e, Int.pow_add]
  have h1 := pow_pos2 a
  have h2 := pow_pos2 (b - a)
  have := Int.mul_le_mul_of_nonneg_left (show (1 : Int) ≤ 2 ^ (b - a) by omega) (Int.le_of_lt h1)
  omega
theorem pow_cast (k : Nat) : ((2 ^ k : Nat) : Int) = 2 ^ k := by simp
theorem bits_lt_pow {n : Int} (h : 0 ≤ n) {k : Nat} : bits n ≤ k ↔ n < 2 ^ k := by
  rw [bits_le]
  have e := pow_cast k
  omega
/-- 2 ^ (bits n - 1) ≤ n < 2 ^ bits n -/
theorem lt_pow_bits {n : Int} (h : 0 ≤ n) : n < 2 ^ (Builtin.Int.intBits n) := (bits_lt_pow h).1 (Int.le_refl _)
theorem pow_bits_le {n : Int} (h : 0 < n) : (2 : Int) ^ (Builtin.Int.intBits n - 1) ≤ n := by
  have hb : Builtin.Int.intBits n ≠ 0 := by
    intro e
    have := lt_pow_bits (n := n) (by omega)
    rw [e] at this
    simp at this
    omega
  have h2 : ¬ bits n ≤ ((Builtin.Int.intBits n - 1 : Nat) : Int) := by
    unfold bits
    omega
  rw [bits_lt_pow (by omega)] at h2
  omega
theorem bits_pos {n : Int} (h : 0 < n) : 0 < Builtin.Int.intBits n := by
  have := lt_pow_bits (n := n) (by omega)
  rcases Nat.eq_zero_or_pos (Builtin.Int.intBits n) with e | e
  · rw [e] at this; simp at this; omega
  · exact e
/-- bits by its bounds -/
theorem bits_eq {n : Int} {k : Nat} (h1 : (2 : Int) ^ k ≤ n) (h2 : n < 2 ^ (k + 1)) : bits n = k + 1 := by
  have p := pow_pos2 k
  have a : bits n ≤ ((k + 1 : Nat) : Int) := (bits_lt_pow (by omega)).2 h2
  have b : ¬ bits n ≤ ((k : Nat) : Int) := by rw [bits_lt_pow (by omega)]; omega
  omega
theorem bits_shift {n : Int} (h : 0 < n) (k : Nat) : bits (n * 2 ^ k) = bits n + k := by
  have hp := bits_pos h
  have h1 := pow_bits_le h
  have h2 := lt_pow_bits (n := n) (by omega)
  have pk := pow_pos2 k
  have e : Builtin.Int.intBits n - 1 + 1 = Builtin.Int.intBits n := by omega
  have a1 : (2 : Int) ^ (Builtin.Int.intBits n - 1 + k) ≤ n * 2 ^ k := by
    rw [Int.pow_add]
    exact Int.mul_le_mul_of_nonneg_right h1 (by omega)
  have a2 : n * 2 ^ k < 2 ^ (Builtin.Int.intBits n - 1 + k + 1) := by
    rw [show Builtin.Int.intBits n - 1 + k + 1 = Builtin.Int.intBits n + k by omega, Int.pow_add]
    exact Int.mul_lt_mul_of_pos_right h2 pk
  rw [bits_eq a1 a2]
  unfold bits
  omega
theorem bits_mono {a b : Int} (h0 : 0 ≤ a) (h : a ≤ b) : bits a ≤ bits b := by
  have := lt_pow_bits (n := b) (by omega)
  exact (bits_lt_pow h0).2 (by omega)

/-! ### the lowest bit -/
theorem nat_low (k j : Nat) : (2 ^ k * (2 * j + 1)) &&& (2 ^ k * (2 * j + 1) - 1) = 2 ^ (k + 1) * j := by
  have hp : 0 < 2 ^ k := Nat.two_pow_pos k
  have e1 : 2 ^ k * (2 * j + 1) = 2 ^ (k + 1) * j + 2 ^ k := by
    rw [Nat.pow_succ, Nat.mul_add, Nat.mul_one, Nat.mul_assoc]
  have e2 : 2 ^ k * (2 * j + 1) - 1 = 2 ^ (k + 1) * j + (2 ^ k - 1) := by rw [e1]; omega
  have l1 : 2 ^ k < 2 ^ (k + 1) := by rw [Nat.pow_succ]; omega
  have l2 : 2 ^ k - 1 < 2 ^ (k + 1) := by omega
  rw [e2]
  conv => lhs; lhs; rw [e1]
  apply Nat.eq_of_testBit_eq
  intro i
  rw [Nat.testBit_and, Nat.testBit_two_pow_mul_add _ l1, Nat.testBit_two_pow_mul_add _ l2]
  have e3 : 2 ^ (k + 1) * j = 2 ^ (k + 1) * j + 0 := rfl
  rw [e3, Nat.testBit_two_pow_mul_add _ (Nat.two_pow_pos _)]
  by_cases hi : i < k + 1
  · rw [if_pos hi, if_pos hi, if_pos hi, Nat.testBit_two_pow, Nat.testBit_two_pow_sub_one, Nat.zero_testBit]
    by_cases hk : k = i
    · subst hk; simp
    · simp [hk]
  · rw [if_neg hi, if_neg hi, if_neg hi, Bool.and_self]
theorem nat_odd : ∀ n : Nat, 0 < n → ∃ k j : Nat, n = 2 ^ k * (2 * j + 1) := by
  intro n
  induction n using Nat.strongRecOn with
  | ind n ih =>
    intro h
    by_cases c : n % 2 = 1
    · exact ⟨0, n / 2, by simp; omega⟩
    · obtain ⟨k, j, e⟩ := ih (n / 2) (by omega) (by omega)
      refine ⟨k + 1, j, ?_⟩
      have e2 : n = 2 * (n / 2) := by omega
      rw [e2, e, Nat.pow_succ]
      rw [Nat.mul_comm (2 ^ k) 2, Nat.mul_assoc]
/-- what (top & -top).bit_length() - 1 is -/
def less (t : Int) : Int := bits (Builtin.bitAnd t (0 - t)) - 1
theorem less_spec {t : Int} (h : 0 < t) : ∃ (k : Nat) (m : Int), 0 ≤ m ∧ t = 2 ^ k * (2 * m + 1) ∧ less t = k := by
  obtain ⟨n, rfl⟩ := Int.eq_ofNat_of_zero_le (Int.le_of_lt h)
  obtain ⟨k, j, e⟩ := nat_odd n (by omega)
  have hp : 0 < 2 ^ k := Nat.two_pow_pos k
  refine ⟨k, j, Int.natCast_nonneg _, ?_, ?_⟩
  · rw [e]
    simp
  · have a : decide (0 ≤ (n : Int)) = true := decide_eq_true (Int.natCast_nonneg _)
    have b : decide (0 ≤ (0 - (n : Int))) = false := decide_eq_false (by omega)
    have c : Builtin.bitNot (0 - (n : Int)) = ((n - 1 : Nat) : Int) := by
      show -(0 - (n : Int)) - 1 = _
      omega
    have d : Builtin.bitAnd (n : Int) (0 - (n : Int)) = 2 ^ k := by
      unfold Builtin.bitAnd
      rw [a, b]
      show (n : Int) - ((((n : Int).toNat &&& (Builtin.bitNot (0 - (n : Int))).toNat : Nat)) : Int) = 2 ^ k
      rw [c, Int.toNat_natCast, Int.toNat_natCast, e, nat_low]
      have e1 : 2 ^ k * (2 * j + 1) = 2 ^ (k + 1) * j + 2 ^ k := by
        rw [Nat.pow_succ, Nat.mul_add, Nat.mul_one, Nat.mul_assoc]
      rw [e1, ← pow_cast k]
      omega
    unfold less
    rw [d, bits_eq (k := k) (Int.le_refl _) (by rw [Int.pow_succ]; have := pow_pos2 k; omega)]
    omega
/-- top and power with an odd top -/
def red (t p : Int) : Int × Int := if t = 0 then (0, 0) else (t / 2 ^ (less t).toNat, p + less t)
theorem red_zero (p : Int) : red 0 p = (0, 0) := if_pos rfl
theorem red_spec {t : Int} (h : 0 < t) (p : Int) : ∃ (k : Nat) (m : Int), 0 ≤ m ∧ t = 2 ^ k * (2 * m + 1) ∧ red t p = (2 * m + 1, p + k) := by
  obtain ⟨k, m, hm, e, l⟩ := less_spec h
  refine ⟨k, m, hm, e, ?_⟩
  unfold red
  rw [if_neg (by omega), l, Int.toNat_natCast]
  have : t / 2 ^ k = 2 * m + 1 := by
    rw [e]
    exact Int.mul_ediv_cancel_left _ (by have := pow_pos2 k; omega)
  rw [this]
def fitsB (t p : Int) : Bool := (decide (t < 9007199254740992) && (decide (-1074 ≤ p) && decide (bits t + p ≤ 1024))) || decide (t = 0)
theorem pow53 : (9007199254740992 : Int) = 2 ^ 53 := by decide
/-- what nearest hands to Float fits -/
theorem red_fits {t p : Int} (h0 : 0 ≤ t) (h1 : t ≤ 9007199254740992) (h2 : -1074 ≤ p) (h3 : bits t + p ≤ 1024) : fitsB (red t p).1 (red t p).2 = true := by
  by_cases z : t = 0
  · subst z; rw [red_zero]; decide
  · obtain ⟨k, m, hm, e, r⟩ := red_spec (t := t) (by omega) p
    rw [r]
    have pk := pow_pos2 k
    have hlt : 2 * m + 1 < 9007199254740992 := by
      by_cases k0 : k = 0
      · subst k0
        simp at e
        omega
      · have p2 : (2 : Int) ≤ 2 ^ k := by
          obtain ⟨j, rfl⟩ : ∃ j, k = j + 1 := ⟨k - 1, by omega⟩
          rw [Int.pow_succ]
          have := pow_pos2 j
          omega
        have : 2 * (2 * m + 1) ≤ 2 ^ k * (2 * m + 1) := Int.mul_le_mul_of_nonneg_right p2 (by omega)
        omega
    have hb : bits t = bits (2 * m + 1) + k := by
      rw [e, Int.mul_comm]
      exact bits_shift (by omega) k
    unfold fitsB
    rw [decide_eq_true hlt, decide_eq_true (show -1074 ≤ p + (k : Int) by omega), decide_eq_true (show bits (2 * m + 1) + (p + (k : Int)) ≤ 1024 by omega)]
    rfl
end Nu

set_option Elab.async false
set_option linter.all false
set_option maxRecDepth 100000
set_option maxHeartbeats 4000000
set_option autoImplicit false
namespace Nu
open PySem L2
def pw (t b : Int) : Int := if -1074 > bits t - bits b - 53 then -1074 else bits t - bits b - 53
def t1 (t b : Int) : Int := if pw t b < 0 then t * 2 ^ (0 - pw t b).toNat else t
def b1 (t b : Int) : Int := if pw t b < 0 then b else b * 2 ^ (pw t b).toNat
def b2 (t b : Int) : Int := if 9007199254740992 ≤ t1 t b / b1 t b then b1 t b * 2 ^ (1 : Int).toNat else b1 t b
def p2 (t b : Int) : Int := if 9007199254740992 ≤ t1 t b / b1 t b then pw t b + 1 else pw t b
def wq (t b : Int) : Int := t1 t b / b2 t b
def wr (t b : Int) : Int := t1 t b % b2 t b
def goesUp (t b : Int) : Prop := b2 t b < 2 * wr t b ∨ (2 * wr t b = b2 t b ∧ Builtin.bitAnd (wq t b) 1 = 1)
instance (t b : Int) : Decidable (goesUp t b) := inferInstanceAs (Decidable (_ ∨ _))
def wh (t b : Int) : Int := if goesUp t b then wq t b + 1 else wq t b
section
variable {t b : Int}
theorem pw_ge : -1074 ≤ pw t b := by unfold pw; split <;> omega
theorem pw_ge2 : bits t - bits b - 53 ≤ pw t b := by unfold pw; split <;> omega
theorem pw_le (h : bits t ≤ 2200) : pw t b ≤ 2200 := by
  have := bits_nn b
  unfold pw; split <;> omega
theorem bits_mul_pow {n : Int} (h : 0 ≤ n) (k : Nat) : bits (n * 2 ^ k) ≤ bits n + k := by
  by_cases z : n = 0
  · subst z; rw [Int.zero_mul, bits_zero]; omega
  · rw [bits_shift (by omega)]; omega
theorem t1_nn (h : 0 ≤ t) : 0 ≤ t1 t b := by
  unfold t1
  split
  · exact Int.mul_nonneg h (Int.le_of_lt (pow_pos2 _))
  · exact h
theorem b1_pos (h : 0 < b) : 0 < b1 t b := by
  unfold b1
  split
  · exact h
  · exact Int.mul_pos h (pow_pos2 _)
theorem b2_pos (h : 0 < b) : 0 < b2 t b := by
  have := b1_pos (t := t) h
  unfold b2
  split
  · exact Int.mul_pos this (pow_pos2 _)
  · exact this
theorem t1_bits (h : 0 ≤ t) (hb : bits t ≤ 2200) : bits (t1 t b) ≤ 3274 := by
  unfold t1
  split
  · have := bits_mul_pow h (0 - pw t b).toNat
    have := pw_ge (t := t) (b := b)
    omega
  · omega
theorem b1_bits (h : 0 < b) (ht : bits t ≤ 2200) (hb : bits b ≤ 2200) : bits (b1 t b) ≤ 4400 := by
  unfold b1
  split
  · omega
  · have := bits_mul_pow (n := b) (by omega) (pw t b).toNat
    have := pw_le (t := t) (b := b) ht
    omega
theorem b2_bits (h : 0 < b) (ht : bits t ≤ 2200) (hb : bits b ≤ 2200) : bits (b2 t b) ≤ 4401 := by
  have h1 := b1_bits h ht hb
  unfold b2
  split
  · have := bits_mul_pow (n := b1 t b) (by have := b1_pos (t := t) h; omega) (1 : Int).toNat
    have e : (((1 : Int).toNat : Nat) : Int) = 1 := rfl
    omega
  · omega
theorem p2_ge : -1074 ≤ p2 t b := by
  have := pw_ge (t := t) (b := b)
  unfold p2
  split <;> omega
/-- the quotient ahead of rounding has at most 54 bits -/
theorem t1_lt (ht : 0 ≤ t) (hb : 0 < b) : t1 t b < 18014398509481984 * b1 t b := by
  have h1 := lt_pow_bits (n := t) ht
  have h2 := pow_bits_le hb
  have hm := bits_pos hb
  have g := pw_ge2 (t := t) (b := b)
  have e54 : (18014398509481984 : Int) = 2 ^ 54 := by decide
  rw [e54]
  unfold bits at g
  generalize hn : Builtin.Int.intBits t = n at *
  generalize hk : Builtin.Int.intBits b = m at *
  unfold t1 b1
  split
  · rename_i c
    have a1 : t * 2 ^ (0 - pw t b).toNat < 2 ^ n * 2 ^ (0 - pw t b).toNat := Int.mul_lt_mul_of_pos_right h1 (pow_pos2 _)
    rw [← Int.pow_add] at a1
    have a2 : (2 : Int) ^ (n + (0 - pw t b).toNat) ≤ 2 ^ (54 + (m - 1)) := pow_mono (by omega)
    have a3 : (2 : Int) ^ (54 + (m - 1)) ≤ 2 ^ 54 * b := by
      rw [Int.pow_add]
      exact Int.mul_le_mul_of_nonneg_left h2 (by decide)
    omega
  · rename_i c
    have a2 : (2 : Int) ^ n ≤ 2 ^ (54 + (m - 1) + (pw t b).toNat) := pow_mono (by omega)
    have a3 : (2 : Int) ^ (54 + (m - 1) + (pw t b).toNat) ≤ 2 ^ 54 * (b * 2 ^ (pw t b).toNat) := by
      rw [Int.pow_add, Int.pow_add, Int.mul_assoc]
      exact Int.mul_le_mul_of_nonneg_left (Int.mul_le_mul_of_nonneg_right h2 (Int.le_of_lt (pow_pos2 _))) (by decide)
    omega
theorem wq_nn (ht : 0 ≤ t) (hb : 0 < b) : 0 ≤ wq t b := Int.ediv_nonneg (t1_nn ht) (Int.le_of_lt (b2_pos hb))
theorem wq_lt (ht : 0 ≤ t) (hb : 0 < b) : wq t b < 9007199254740992 := by
  have h := t1_lt ht hb
  have h1 := b1_pos (t := t) hb
  unfold wq b2
  split
  · have e : b1 t b * 2 ^ (1 : Int).toNat = 2 * b1 t b := by
      show b1 t b * 2 = _
      omega
    rw [e]
    refine Int.ediv_lt_of_lt_mul (by omega) ?_
    omega
  · omega
theorem wr_nn (hb : 0 < b) : 0 ≤ wr t b := Int.emod_nonneg _ (by have := b2_pos (t := t) hb; omega)
theorem wr_lt (hb : 0 < b) : wr t b < b2 t b := Int.emod_lt_of_pos _ (b2_pos hb)
theorem wh_nn (ht : 0 ≤ t) (hb : 0 < b) : 0 ≤ wh t b := by
  have := wq_nn ht hb
  unfold wh; split <;> omega
theorem wh_le (ht : 0 ≤ t) (hb : 0 < b) : wh t b ≤ 9007199254740992 := by
  have := wq_lt ht hb
  unfold wh; split <;> omega
theorem wh_fits (ht : 0 ≤ t) (hb : 0 < b) (h : bits (wh t b) + p2 t b ≤ 1024) : fitsB (red (wh t b) (p2 t b)).1 (red (wh t b) (p2 t b)).2 = true :=
  red_fits (wh_nn ht hb) (wh_le ht hb) p2_ge h
end
end Nu

set_option Elab.async false
set_option linter.all false
set_option maxRecDepth 100000
set_option maxHeartbeats 4000000
set_option autoImplicit false
/-! The float that nearest tells is the nearest one. -/
namespace Nu
open PySem L2
/-- 2 ^ (e + 3000) -/
def G (e : Int) : Int := 2 ^ (e + 3000).toNat
theorem G_pos (e : Int) : 0 < G e := pow_pos2 _
theorem G_add {e : Int} (k : Nat) (h : -3000 ≤ e) : G (e + k) = 2 ^ k * G e := by
  unfold G
  rw [← Int.pow_add]
  congr 1
  omega
theorem G_succ {e : Int} (h : -3000 ≤ e) : G (e + 1) = 2 * G e := G_add 1 h
theorem G_pred {e : Int} (h : -2999 ≤ e) : G e = 2 * G (e - 1) := by
  have := G_succ (e := e - 1) (by omega)
  rwa [show e - 1 + 1 = e by omega] at this
theorem G_le {e f : Int} (h : e ≤ f) : G e ≤ G f := pow_mono (by omega)
/-- a number times a power of two, as a fraction -/
def sc (n e : Int) : Int × Int := if 0 ≤ e then (n * 2 ^ e.toNat, 1) else (n, 2 ^ (0 - e).toNat)
theorem sc_cmp (t b n e : Int) (h : -3000 ≤ e) : ∃ F, 0 < F ∧ (t * (sc n e).2 - (sc n e).1 * b) * F = t * G 0 - n * (G e * b) := by
  unfold sc
  split
  · refine ⟨G 0, G_pos 0, ?_⟩
    have e1 : G e = 2 ^ e.toNat * G 0 := by
      have := G_add (e := 0) e.toNat (by decide)
      rwa [show (0 : Int) + (e.toNat : Int) = e by omega] at this
    show (t * 1 - n * 2 ^ e.toNat * b) * G 0 = _
    rw [e1]
    generalize (2 : Int) ^ e.toNat = a
    generalize G 0 = u
    rw [Int.sub_mul, Int.mul_one]
    congr 1
    simp only [Int.mul_assoc, Int.mul_comm, Int.mul_left_comm]
  · refine ⟨G e, G_pos e, ?_⟩
    have e1 : G 0 = 2 ^ (0 - e).toNat * G e := by
      have := G_add (e := e) (0 - e).toNat h
      rwa [show e + ((0 - e).toNat : Int) = 0 by omega] at this
    show (t * 2 ^ (0 - e).toNat - n * b) * G e = _
    rw [e1]
    generalize (2 : Int) ^ (0 - e).toNat = a
    generalize G e = u
    rw [Int.sub_mul]
    congr 1
    · simp only [Int.mul_assoc, Int.mul_comm, Int.mul_left_comm]
    · simp only [Int.mul_assoc, Int.mul_comm, Int.mul_left_comm]
theorem sc_pos {t b n e : Int} (h : -3000 ≤ e) : 0 < t * (sc n e).2 - (sc n e).1 * b ↔ n * (G e * b) < t * G 0 := by
  obtain ⟨F, hF, q⟩ := sc_cmp t b n e h
  generalize t * (sc n e).2 - (sc n e).1 * b = x at *
  constructor
  · intro hx
    have := Int.mul_pos hx hF
    omega
  · intro hx
    have : 0 < x * F := by omega
    rcases Int.lt_trichotomy x 0 with c | c | c
    · have := Int.mul_neg_of_neg_of_pos c hF
      omega
    · rw [c, Int.zero_mul] at this
      omega
    · exact c
theorem sc_zero {t b n e : Int} (h : -3000 ≤ e) : t * (sc n e).2 - (sc n e).1 * b = 0 ↔ t * G 0 = n * (G e * b) := by
  obtain ⟨F, hF, q⟩ := sc_cmp t b n e h
  generalize t * (sc n e).2 - (sc n e).1 * b = x at *
  constructor
  · intro hx
    rw [hx, Int.zero_mul] at q
    omega
  · intro hx
    have : x * F = 0 := by omega
    rcases Int.mul_eq_zero.mp this with c | c
    · exact c
    · omega
theorem and_one {n : Int} (h : 0 ≤ n) : Builtin.bitAnd n 1 = n % 2 := by
  obtain ⟨k, rfl⟩ := Int.eq_ofNat_of_zero_le h
  have a : decide (0 ≤ (k : Int)) = true := decide_eq_true (Int.natCast_nonneg _)
  have b : decide (0 ≤ (1 : Int)) = true := rfl
  unfold Builtin.bitAnd
  rw [a, b]
  show (((k : Int).toNat &&& (1 : Int).toNat : Nat) : Int) = _
  rw [Int.toNat_natCast, show (1 : Int).toNat = 1 from rfl, Nat.and_one_is_mod]
  omega
section
variable {t b : Int}
theorem scale1 (h : pw t b ≤ 2900) : t1 t b * (G (pw t b) * b) = t * G 0 * b1 t b := by
  have g := pw_ge (t := t) (b := b)
  unfold t1 b1
  split
  · rename_i c
    have e1 : G 0 = 2 ^ (0 - pw t b).toNat * G (pw t b) := by
      have := G_add (e := pw t b) (0 - pw t b).toNat (by omega)
      rwa [show pw t b + ((0 - pw t b).toNat : Int) = 0 by omega] at this
    rw [e1]
    simp only [Int.mul_assoc, Int.mul_comm, Int.mul_left_comm]
  · rename_i c
    have e1 : G (pw t b) = 2 ^ (pw t b).toNat * G 0 := by
      have := G_add (e := 0) (pw t b).toNat (by decide)
      rwa [show (0 : Int) + ((pw t b).toNat : Int) = pw t b by omega] at this
    rw [e1]
    simp only [Int.mul_assoc, Int.mul_comm, Int.mul_left_comm]
theorem scale2 (h : pw t b ≤ 2900) : t1 t b * (G (p2 t b) * b) = t * G 0 * b2 t b := by
  have g := pw_ge (t := t) (b := b)
  have s := scale1 h
  unfold p2 b2
  split
  · rw [G_succ (by omega), show b1 t b * 2 ^ (1 : Int).toNat = 2 * b1 t b by show b1 t b * 2 = _; omega]
    rw [show t1 t b * (2 * G (pw t b) * b) = 2 * (t1 t b * (G (pw t b) * b)) by simp only [Int.mul_assoc, Int.mul_comm, Int.mul_left_comm], s]
    simp only [Int.mul_assoc, Int.mul_comm, Int.mul_left_comm]
  · exact s
theorem wq_eq (hb : 0 < b) : t1 t b = wq t b * b2 t b + wr t b := by
  have := Int.ediv_mul_add_emod (t1 t b) (b2 t b)
  unfold wq wr
  omega
theorem wq_big (ht : 0 < t) (hb : 0 < b) (h : -1074 < p2 t b) : 4503599627370496 * b2 t b ≤ t1 t b := by
  have hb1 := b1_pos (t := t) hb
  unfold p2 at h
  unfold b2
  split at h
  · rename_i c
    rw [if_pos c, show b1 t b * 2 ^ (1 : Int).toNat = 2 * b1 t b by show b1 t b * 2 = _; omega]
    have := Int.mul_le_of_le_ediv hb1 c
    omega
  · rename_i c
    rw [if_neg c]
    have h1 := pow_bits_le ht
    have h2 := lt_pow_bits (n := b) (by omega)
    have hn := bits_pos ht
    have e52 : (4503599627370496 : Int) = 2 ^ 52 := by decide
    have ep : pw t b = bits t - bits b - 53 := by
      unfold pw at h ⊢
      split
      · rename_i c2; rw [if_pos c2] at h; omega
      · rfl
    rw [e52]
    unfold bits at ep
    generalize hk : Builtin.Int.intBits t = n at *
    generalize hm : Builtin.Int.intBits b = m at *
    unfold t1 b1
    split
    · rename_i c2
      have a1 : (2 : Int) ^ (n - 1) * 2 ^ (0 - pw t b).toNat ≤ t * 2 ^ (0 - pw t b).toNat := Int.mul_le_mul_of_nonneg_right h1 (Int.le_of_lt (pow_pos2 _))
      rw [← Int.pow_add] at a1
      have a2 : (2 : Int) ^ 52 * b ≤ 2 ^ 52 * 2 ^ m := Int.mul_le_mul_of_nonneg_left (Int.le_of_lt h2) (by decide)
      rw [← Int.pow_add] at a2
      have a3 : (2 : Int) ^ (52 + m) ≤ 2 ^ (n - 1 + (0 - pw t b).toNat) := pow_mono (by omega)
      omega
    · rename_i c2
      have a1 : b * 2 ^ (pw t b).toNat ≤ 2 ^ m * 2 ^ (pw t b).toNat := Int.mul_le_mul_of_nonneg_right (Int.le_of_lt h2) (Int.le_of_lt (pow_pos2 _))
      rw [← Int.pow_add] at a1
      have a2 : (2 : Int) ^ 52 * (b * 2 ^ (pw t b).toNat) ≤ 2 ^ 52 * 2 ^ (m + (pw t b).toNat) := Int.mul_le_mul_of_nonneg_left a1 (by decide)
      rw [← Int.pow_add] at a2
      have a3 : (2 : Int) ^ (52 + (m + (pw t b).toNat)) ≤ 2 ^ (n - 1) := pow_mono (by omega)
      omega
end
/-- W * 2 ^ p is the nearest one to t / b -/
structure Near (t b W p : Int) : Prop where
  a : t * G 0 ≤ (2 * W + 1) * (G (p - 1) * b)
  ae : t * G 0 = (2 * W + 1) * (G (p - 1) * b) → W % 2 = 0
  l : (2 * W - 1) * (G (p - 1) * b) ≤ t * G 0
  le : t * G 0 = (2 * W - 1) * (G (p - 1) * b) → W % 2 = 0
  c : -1074 < p → 4503599627370496 * (G p * b) ≤ t * G 0
  w0 : 0 ≤ W
  w1 : W ≤ 9007199254740992
  p0 : -1074 ≤ p
theorem dbl {x y z w : Int} (h : y = 2 * z) : x * y = 2 * (x * z) := by rw [h, Int.mul_left_comm]
theorem near_wh {t b : Int} (ht : 0 < t) (hb : 0 < b) (hh : bits t ≤ 2800) : Near t b (wh t b) (p2 t b) := by
  have hpw : pw t b ≤ 2800 := by
    have := bits_nn b
    unfold pw; split <;> omega
  have s2 := scale2 (t := t) (b := b) (by omega)
  have B0 := b2_pos (t := t) hb
  have g := p2_ge (t := t) (b := b)
  have qe := wq_eq (t := t) hb
  have r0 := wr_nn (t := t) hb
  have r1 := wr_lt (t := t) hb
  have q0 := wq_nn (t := t) (b := b) (by omega) hb
  have D0 : 0 < G (p2 t b) * b := Int.mul_pos (G_pos _) hb
  have gp : G (p2 t b) * b = 2 * (G (p2 t b - 1) * b) := by rw [G_pred (by omega), Int.mul_assoc]
  have mx : ∀ x : Int, 2 * (x * (G (p2 t b - 1) * b)) = x * (G (p2 t b) * b) := fun x => by rw [gp, Int.mul_left_comm]
  -- from T1, B to t, b
  have up : ∀ x : Int, 2 * t1 t b ≤ x * b2 t b → t * G 0 ≤ x * (G (p2 t b - 1) * b) := fun x h => by
    have h1 := Int.mul_le_mul_of_nonneg_right h (Int.le_of_lt D0)
    rw [Int.mul_assoc, s2, show x * b2 t b * (G (p2 t b) * b) = x * (G (p2 t b) * b) * b2 t b by simp only [Int.mul_assoc, Int.mul_comm, Int.mul_left_comm], ← mx, ← Int.mul_assoc] at h1
    have := Int.le_of_mul_le_mul_right h1 B0
    omega
  have dn : ∀ x : Int, x * b2 t b ≤ 2 * t1 t b → x * (G (p2 t b - 1) * b) ≤ t * G 0 := fun x h => by
    have h1 := Int.mul_le_mul_of_nonneg_right h (Int.le_of_lt D0)
    rw [Int.mul_assoc 2, s2, show x * b2 t b * (G (p2 t b) * b) = x * (G (p2 t b) * b) * b2 t b by simp only [Int.mul_assoc, Int.mul_comm, Int.mul_left_comm], ← mx, ← Int.mul_assoc 2 (t * G 0)] at h1
    have := Int.le_of_mul_le_mul_right h1 B0
    omega
  have ee : ∀ x : Int, t * G 0 = x * (G (p2 t b - 1) * b) → 2 * t1 t b = x * b2 t b := fun x h => by
    have h1 : 2 * t1 t b * (G (p2 t b) * b) = x * b2 t b * (G (p2 t b) * b) := by
      rw [Int.mul_assoc, s2, h, show x * b2 t b * (G (p2 t b) * b) = x * (G (p2 t b) * b) * b2 t b by simp only [Int.mul_assoc, Int.mul_comm, Int.mul_left_comm], ← mx, ← Int.mul_assoc 2]
    exact Int.eq_of_mul_eq_mul_right (by omega) h1
  have an := and_one q0
  have m1 : ∀ x y : Int, (x * wq t b + y) * b2 t b = x * (wq t b * b2 t b) + y * b2 t b := fun x y => by rw [Int.add_mul, Int.mul_assoc]
  have m1' : ∀ x y : Int, (x * wq t b - y) * b2 t b = x * (wq t b * b2 t b) - y * b2 t b := fun x y => by rw [Int.sub_mul, Int.mul_assoc]
  have hw : ((b2 t b < 2 * wr t b ∨ (2 * wr t b = b2 t b ∧ wq t b % 2 = 1)) ∧ wh t b = wq t b + 1) ∨ (2 * wr t b ≤ b2 t b ∧ (2 * wr t b = b2 t b → wq t b % 2 = 0) ∧ wh t b = wq t b) := by
    have hg : goesUp t b ↔ (b2 t b < 2 * wr t b ∨ (2 * wr t b = b2 t b ∧ wq t b % 2 = 1)) := by
      unfold goesUp
      rw [an]
    by_cases c : goesUp t b
    · exact .inl ⟨hg.1 c, if_pos c⟩
    · have c' : ¬ (b2 t b < 2 * wr t b ∨ (2 * wr t b = b2 t b ∧ wq t b % 2 = 1)) := fun z => c (hg.2 z)
      refine .inr ⟨by omega, fun e => ?_, if_neg c⟩
      have := Int.emod_two_eq (wq t b)
      omega
  refine ⟨?_, ?_, ?_, ?_, ?_, wh_nn (by omega) hb, wh_le (by omega) hb, g⟩
  · refine up _ ?_
    rcases hw with ⟨c, e⟩ | ⟨c, c2, e⟩
    · rw [e, show 2 * (wq t b + 1) + 1 = 2 * wq t b + 3 by omega, m1]
      omega
    · rw [e, m1]
      omega
  · intro h
    have := ee _ h
    rcases hw with ⟨c, e⟩ | ⟨c, c2, e⟩
    · rw [e, show 2 * (wq t b + 1) + 1 = 2 * wq t b + 3 by omega, m1] at this
      omega
    · rw [e, m1] at this
      rw [e]
      exact c2 (by omega)
  · refine dn _ ?_
    rcases hw with ⟨c, e⟩ | ⟨c, c2, e⟩
    · rw [e, show 2 * (wq t b + 1) - 1 = 2 * wq t b + 1 by omega, m1]
      omega
    · rw [e, m1']
      omega
  · intro h
    have := ee _ h
    rcases hw with ⟨c, e⟩ | ⟨c, c2, e⟩
    · rw [e, show 2 * (wq t b + 1) - 1 = 2 * wq t b + 1 by omega, m1] at this
      rw [e]
      omega
    · rw [e, m1'] at this
      omega
  · intro h
    have := wq_big ht hb h
    have h2 := dn (2 * 4503599627370496) (by rw [Int.mul_assoc]; omega)
    rw [gp, Int.mul_left_comm, ← Int.mul_assoc]
    exact h2
/-- what is told by doubling an odd number -/
theorem back {W p M Q : Int} {k : Nat} (hW : 0 < W) (w1 : W ≤ 9007199254740992) (p0 : -1074 ≤ p) (c : -1074 < p → 4503599627370496 ≤ W) (hM : M = (red W p).1 * 2 ^ k) (hQ : Q = (red W p).2 - k)
    (hk : k = 0 ∨ (M < 9007199254740992 ∧ -1074 ≤ Q)) (hs : ¬ (0 < M ∧ M < 4503599627370496 ∧ -1074 < Q)) : (M = W ∧ Q = p) ∨ (W = 9007199254740992 ∧ M = 4503599627370496 ∧ Q = p + 1) := by
  obtain ⟨j, m, hm, e, r⟩ := red_spec hW p
  rw [r] at hM hQ
  simp only at hM hQ
  rcases Nat.lt_trichotomy k j with c1 | c1 | c1
  · obtain ⟨i, rfl⟩ : ∃ i, j = k + (i + 1) := ⟨j - k - 1, by omega⟩
    have e2 : W = 2 ^ i * (2 * M) := by
      rw [e, hM, Int.pow_add, Int.pow_succ]
      simp only [Int.mul_assoc, Int.mul_comm, Int.mul_left_comm]
    have M0 : 0 < M := by
      rw [hM]
      exact Int.mul_pos (by omega) (pow_pos2 _)
    have M1 : 4503599627370496 ≤ M := by omega
    rcases Nat.eq_zero_or_pos i with z | z
    · subst z
      rw [Int.pow_zero, Int.one_mul] at e2
      exact .inr ⟨by omega, by omega, by omega⟩
    · obtain ⟨i', rfl⟩ : ∃ i', i = i' + 1 := ⟨i - 1, by omega⟩
      have p2 : (2 : Int) ≤ 2 ^ (i' + 1) := by
        rw [Int.pow_succ]
        have := pow_pos2 i'
        omega
      have := Int.mul_le_mul_of_nonneg_right p2 (show 0 ≤ 2 * M by omega)
      omega
  · subst c1
    refine .inl ⟨?_, by omega⟩
    rw [hM, e, Int.mul_comm]
  · obtain ⟨i, rfl⟩ : ∃ i, k = j + (i + 1) := ⟨k - j - 1, by omega⟩
    have e2 : M = 2 ^ i * (2 * W) := by
      rw [e, hM, Int.pow_add, Int.pow_succ]
      simp only [Int.mul_assoc, Int.mul_comm, Int.mul_left_comm]
    have h3 := pow_pos2 i
    have : 1 * (2 * W) ≤ 2 ^ i * (2 * W) := Int.mul_le_mul_of_nonneg_right (by omega) (by omega)
    have := c (by omega)
    omega
/-- the law's look at it -/
structure NearL (t b M Q : Int) : Prop where
  a : ¬ 0 < t * (sc (2 * M + 1) (Q - 1)).2 - (sc (2 * M + 1) (Q - 1)).1 * b
  ae : t * (sc (2 * M + 1) (Q - 1)).2 - (sc (2 * M + 1) (Q - 1)).1 * b = 0 → M % 2 = 0
  l : (M = 4503599627370496 ∧ -1074 < Q) → 0 < t * (sc (4 * M - 1) (Q - 2)).2 - (sc (4 * M - 1) (Q - 2)).1 * b ∨ (t * (sc (4 * M - 1) (Q - 2)).2 - (sc (4 * M - 1) (Q - 2)).1 * b = 0 ∧ M % 2 = 0) ∨ M = 0
  l' : ¬ (M = 4503599627370496 ∧ -1074 < Q) → 0 < t * (sc (2 * M - 1) (Q - 1)).2 - (sc (2 * M - 1) (Q - 1)).1 * b ∨ (t * (sc (2 * M - 1) (Q - 1)).2 - (sc (2 * M - 1) (Q - 1)).1 * b = 0 ∧ M % 2 = 0) ∨ M = 0
theorem near_w {t b W p : Int} (n : Near t b W p) (hb : 0 < b) : -1074 < p → 4503599627370496 ≤ W := fun h => by
  have h1 := n.c h
  have h2 := n.a
  have D0 : 0 < G (p - 1) * b := Int.mul_pos (G_pos _) hb
  have gp : G p * b = 2 * (G (p - 1) * b) := by rw [G_pred (by omega), Int.mul_assoc]
  rw [gp] at h1
  rcases Int.lt_or_le W 4503599627370496 with c | c
  · have : (2 * W + 1) * (G (p - 1) * b) ≤ 9007199254740991 * (G (p - 1) * b) := Int.mul_le_mul_of_nonneg_right (by omega) (by omega)
    omega
  · exact c
theorem near_law {t b W p M Q : Int} {k : Nat} (n : Near t b W p) (hb : 0 < b) (hW : 0 < W) (hM : M = (red W p).1 * 2 ^ k) (hQ : Q = (red W p).2 - k)
    (hk : k = 0 ∨ (M < 9007199254740992 ∧ -1074 ≤ Q)) (hs : ¬ (0 < M ∧ M < 4503599627370496 ∧ -1074 < Q)) : NearL t b M Q := by
  have D0 : 0 < G (p - 1) * b := Int.mul_pos (G_pos _) hb
  have p0 := n.p0
  have gp : G p * b = 2 * (G (p - 1) * b) := by rw [G_pred (by omega), Int.mul_assoc]
  have gq : G (p - 1) * b = 2 * (G (p - 2) * b) := by rw [G_pred (by omega), Int.mul_assoc, show p - 1 - 1 = p - 2 by omega]
  have a := n.a
  have ae := n.ae
  have l := n.l
  have le := n.le
  have c := n.c
  have or3 : ∀ {x y : Int} {A : Prop}, x ≤ y → (y = x → A) → x < y ∨ y = x ∧ A := fun {x y A} h f => by
    rcases Int.lt_or_eq_of_le h with h | h
    · exact .inl h
    · exact .inr ⟨h.symm, f h.symm⟩
  rcases back hW n.w1 n.p0 (near_w n hb) hM hQ hk hs with ⟨rfl, rfl⟩ | ⟨hW2, rfl, rfl⟩
  · refine ⟨?_, ?_, ?_, ?_⟩
    · rw [sc_pos (by omega)]
      omega
    · rw [sc_zero (by omega)]
      exact ae
    · rintro ⟨h1, h2⟩
      have := c h2
      left
      rw [sc_pos (by omega)]
      have : (4 * M - 1) * (G (Q - 2) * b) = 4 * 4503599627370496 * (G (Q - 2) * b) - G (Q - 2) * b := by
        rw [Int.sub_mul, Int.one_mul, h1]
      have := Int.mul_pos (G_pos (Q - 2)) hb
      omega
    · intro _
      rcases or3 l le with h | ⟨h1, h2⟩
      · left
        rw [sc_pos (by omega)]
        exact h
      · right; left
        rw [sc_zero (by omega)]
        exact ⟨h1, h2⟩
  · subst hW2
    refine ⟨?_, fun _ => rfl, ?_, ?_⟩
    · rw [sc_pos (by omega), show p + 1 - 1 = p by omega, gp]
      omega
    · intro _
      rcases or3 l (fun _ => (rfl : (4503599627370496 : Int) % 2 = 0)) with h | ⟨h1, h2⟩
      · left
        rw [sc_pos (by omega), show p + 1 - 2 = p - 1 by omega]
        exact h
      · right; left
        rw [sc_zero (by omega), show p + 1 - 2 = p - 1 by omega]
        exact ⟨h1, h2⟩
    · intro h
      exact absurd ⟨rfl, by omega⟩ h
theorem near_zero {t b p : Int} (n : Near t b 0 p) (hb : 0 < b) : NearL t b 0 (-1074) := by
  have hp : p = -1074 := by
    have h0 := n.p0
    rcases Int.lt_or_le (-1074) p with c | c
    · have := near_w n hb c
      omega
    · omega
  subst hp
  refine ⟨?_, fun _ => rfl, fun _ => .inr (.inr rfl), fun _ => .inr (.inr rfl)⟩
  rw [sc_pos (by decide)]
  have := n.a
  simp only [Int.mul_zero, Int.zero_add] at this ⊢
  omega
theorem edge {t b W p : Int} (n : Near t b W p) (hb : 0 < b) : 1024 < bits W + p ↔ ((2 : Int) ^ 1024 - 2 ^ 970) * b ≤ t := by
  have e1 : ((2 : Int) ^ 1024 - 2 ^ 970) * G 0 = 18014398509481983 * G 970 := by decide +kernel
  have e2 : ((2 : Int) ^ 1024 - 2 ^ 970) * b ≤ t ↔ 18014398509481983 * (G 970 * b) ≤ t * G 0 := by
    have e3 : ((2 : Int) ^ 1024 - 2 ^ 970) * b * G 0 = 18014398509481983 * (G 970 * b) := by
      rw [Int.mul_right_comm, e1, Int.mul_assoc]
    rw [← e3]
    exact ⟨fun h => Int.mul_le_mul_of_nonneg_right h (Int.le_of_lt (G_pos 0)), fun h => Int.le_of_mul_le_mul_right h (G_pos 0)⟩
  rw [e2]
  have W0 := n.w0
  have W1 := n.w1
  have a := n.a
  have ae := n.ae
  have l := n.l
  have c := n.c
  have p0 := n.p0
  have D0 : ∀ e, 0 < G e * b := fun e => Int.mul_pos (G_pos _) hb
  have gd : ∀ {e : Int}, -2999 ≤ e → G e * b = 2 * (G (e - 1) * b) := fun {e} h => by rw [G_pred h, Int.mul_assoc]
  have gl : ∀ {e f : Int}, e ≤ f → G e * b ≤ G f * b := fun h => Int.mul_le_mul_of_nonneg_right (G_le h) (by omega)
  have b53 : bits W ≤ ((53 : Nat) : Int) ↔ W < 9007199254740992 := by
    rw [bits_lt_pow W0]
    rfl
  have b52 : bits W ≤ ((52 : Nat) : Int) ↔ W < 4503599627370496 := by
    rw [bits_lt_pow W0]
    rfl
  have b54 : bits W ≤ ((54 : Nat) : Int) := (bits_lt_pow W0).2 (by omega)
  constructor
  · intro h
    have hp : 971 ≤ p := by omega
    have := c (by omega)
    rcases Int.lt_or_le 971 p with h2 | h2
    · have g1 := gl (show (972 : Int) ≤ p by omega)
      have g2 := gd (e := 972) (by decide)
      have g3 := gd (e := 971) (by decide)
      have := D0 970
      have := Int.mul_le_mul_of_nonneg_left g1 (show (0 : Int) ≤ 4503599627370496 by decide)
      simp only [show (972 : Int) - 1 = 971 from rfl, show (971 : Int) - 1 = 970 from rfl] at g2 g3
      omega
    · have hp : p = 971 := by omega
      subst hp
      have hw : W = 9007199254740992 := by omega
      subst hw
      exact l
  · intro h
    rcases Int.lt_or_le 1024 (bits W + p) with h2 | h2
    · exact h2
    · exfalso
      have hp : p ≤ 971 := by
        rcases Int.lt_or_le 971 p with h3 | h3
        · have := near_w n hb (by omega)
          omega
        · exact h3
      rcases Int.lt_or_le p 971 with h3 | h3
      · have g1 := gl (show p - 1 ≤ 969 by omega)
        have g2 := gd (e := 970) (by decide)
        simp only [show (970 : Int) - 1 = 969 from rfl] at g2
        have h4 := Int.mul_le_mul_of_nonneg_left g1 (show (0 : Int) ≤ 2 * W + 1 by omega)
        have h5 : (2 * W + 1) * (G 969 * b) ≤ 18014398509481985 * (G 969 * b) := Int.mul_le_mul_of_nonneg_right (by omega) (Int.le_of_lt (D0 969))
        have := D0 969
        omega
      · have hp : p = 971 := by omega
        subst hp
        have hw : W < 9007199254740992 := by omega
        simp only [show (971 : Int) - 1 = 970 from rfl] at a ae l
        rcases Int.lt_or_le W 9007199254740991 with h4 | h4
        · have h5 : (2 * W + 1) * (G 970 * b) ≤ 18014398509481981 * (G 970 * b) := Int.mul_le_mul_of_nonneg_right (by omega) (Int.le_of_lt (D0 970))
          have := D0 970
          omega
        · have hw2 : W = 9007199254740991 := by omega
          subst hw2
          have := ae (by omega)
          omega
end Nu

set_option Elab.async false
set_option linter.all false
set_option maxRecDepth 100000
set_option maxHeartbeats 4000000
set_option autoImplicit false
/-! Exact quotients; equal fractions. -/
namespace Nu
open PySem L2
theorem Near.cross {t b t' b' W p : Int} (n : Near t' b' W p) (hb : 0 < b) (hb' : 0 < b') (e : t * b' = t' * b) : Near t b W p := by
  have k1 : ∀ x y : Int, t' * G 0 ≤ x * (G y * b') ↔ t * G 0 ≤ x * (G y * b) := fun x y => by
    have e1 : t' * G 0 * b = t * G 0 * b' := by rw [Int.mul_right_comm, ← e, Int.mul_right_comm]
    have e2 : x * (G y * b') * b = x * (G y * b) * b' := by simp only [Int.mul_assoc, Int.mul_comm, Int.mul_left_comm]
    constructor
    · intro h
      have := Int.mul_le_mul_of_nonneg_right h (Int.le_of_lt hb)
      rw [e1, e2] at this
      exact Int.le_of_mul_le_mul_right this hb'
    · intro h
      have := Int.mul_le_mul_of_nonneg_right h (Int.le_of_lt hb')
      rw [← e1, ← e2] at this
      exact Int.le_of_mul_le_mul_right this hb
  have k2 : ∀ x y : Int, x * (G y * b') ≤ t' * G 0 ↔ x * (G y * b) ≤ t * G 0 := fun x y => by
    have e1 : t' * G 0 * b = t * G 0 * b' := by rw [Int.mul_right_comm, ← e, Int.mul_right_comm]
    have e2 : x * (G y * b') * b = x * (G y * b) * b' := by simp only [Int.mul_assoc, Int.mul_comm, Int.mul_left_comm]
    constructor
    · intro h
      have := Int.mul_le_mul_of_nonneg_right h (Int.le_of_lt hb)
      rw [e1, e2] at this
      exact Int.le_of_mul_le_mul_right this hb'
    · intro h
      have := Int.mul_le_mul_of_nonneg_right h (Int.le_of_lt hb')
      rw [← e1, ← e2] at this
      exact Int.le_of_mul_le_mul_right this hb
  have k3 : ∀ x y : Int, t' * G 0 = x * (G y * b') ↔ t * G 0 = x * (G y * b) := fun x y => by
    have h1 := k1 x y
    have h2 := k2 x y
    omega
  exact ⟨(k1 _ _).1 n.a, fun h => n.ae ((k3 _ _).2 h), (k2 _ _).1 n.l, fun h => n.le ((k3 _ _).2 h), fun h => (k2 _ _).1 (n.c h), n.w0, n.w1, n.p0⟩
/-- what is a float is told exactly -/
theorem near_exact {t b W p m e : Int} (n : Near t b W p) (hb : 0 < b) (hm : 0 < m) (hm2 : m < 9007199254740992) (he : -1074 ≤ e) (he2 : e ≤ 2900) (h : t * G 0 = m * (G e * b)) : W * G p = m * G e := by
  have p0 := n.p0
  have D0 : 0 < G (p - 1) * b := Int.mul_pos (G_pos _) hb
  rcases Int.lt_or_le e p with c | c
  · exfalso
    have h1 := n.c (by omega)
    rw [h] at h1
    have g1 : G (e + 1) * b ≤ G p * b := Int.mul_le_mul_of_nonneg_right (G_le (by omega)) (by omega)
    rw [G_succ (by omega), Int.mul_assoc] at g1
    have D1 : 0 < G e * b := Int.mul_pos (G_pos _) hb
    have : m * (G e * b) ≤ 9007199254740991 * (G e * b) := Int.mul_le_mul_of_nonneg_right (by omega) (by omega)
    omega
  · obtain ⟨k, hk⟩ : ∃ k : Nat, e = p + k := ⟨(e - p).toNat, by omega⟩
    have ge : G e = 2 ^ k * G p := by rw [hk, G_add k (by omega)]
    have gp : G p * b = 2 * (G (p - 1) * b) := by rw [G_pred (by omega), Int.mul_assoc]
    have h2 : t * G 0 = 2 * (m * 2 ^ k) * (G (p - 1) * b) := by
      rw [h, ge, Int.mul_assoc (2 ^ k), gp]
      simp only [Int.mul_assoc, Int.mul_comm, Int.mul_left_comm]
    have a := n.a
    have l := n.l
    rw [h2] at a l
    have a' := Int.le_of_mul_le_mul_right a D0
    have l' := Int.le_of_mul_le_mul_right l D0
    have : W = m * 2 ^ k := by omega
    rw [this, ge, Int.mul_assoc]
theorem red_G {W p : Int} (hW : 0 < W) (hp : -3000 ≤ p) : (red W p).1 * G (red W p).2 = W * G p := by
  obtain ⟨k, m, hm, e, r⟩ := red_spec hW p
  rw [r]
  show (2 * m + 1) * G (p + k) = W * G p
  rw [G_add k hp, e]
  simp only [Int.mul_assoc, Int.mul_comm, Int.mul_left_comm]
/-- a remainder of two floats is a float -/
theorem mod_exact {A C K a c : Int} (hK : 0 < K) (hc : 0 < c) (hA : A * G 0 = a * K) (hC : C * G 0 = c * K) : (A % C) * G 0 = (a % c) * K := by
  have g := G_pos 0
  have h1 : (A * G 0) % (C * G 0) = (A % C) * G 0 := by rw [Int.mul_comm A, Int.mul_comm C, Int.mul_emod_mul_of_pos A C g, Int.mul_comm]
  have h2 : (a * K) % (c * K) = (a % c) * K := by rw [Int.mul_comm a, Int.mul_comm c, Int.mul_emod_mul_of_pos a c hK, Int.mul_comm]
  rw [← h1, hA, hC, h2]
end Nu

set_option Elab.async false
set_option linter.all false
set_option maxRecDepth 100000
set_option maxHeartbeats 4000000
namespace Rd
open PySem PySem.Spec L2
section
variable {X : Cx}
theorem pgE (x : Str) {i : Int} {pos : Pos} (hm : ∃ t, X.mg x = some (.int i t)) (hg : Gl X x := by rfl) (hd : (x == ("__debug__" : Str)) = false := by decide) : PE X (.Name x pos) (tC (.int i)) := by
  obtain ⟨t, h⟩ := hm
  exact pe_glob hg h ⟨t, rfl⟩ hd
/-- e.f, as a target -/
def gFld (K : PySem.W.Frag) (to : TE) (f : Str) : TG := fun v σ H Q => to σ H fun x H1 => ∃ a C dx fs, x = .ref a ∧ H1 a = some (.ins C dx fs) ∧ Cls K C ∧ NoAttr K C f ∧ fs.length < 1000 ∧ Q σ (upd H1 a (.ins C dx (putF f v fs)))
theorem pg_fld {o : Expr} {f : Str} {pos : Pos} {to : TE} (ho : PE X o to) : PG X (.Attribute o f pos) (gFld X.K to f) := by
  refine ⟨fun pins s σ H v u Q I r h => ?_⟩
  rw [assign_Attribute]
  refine wpAny_bind (wpAny_holding (thn (ho.run pins s σ H _ I h) fun ov s1 ⟨x, H1, I1, r1, a, C, dx, fs, ex, ea, c, n, l, q1⟩ => ?_))
  subst ex
  obtain rfl : ov = Value.ref a := r1
  refine wpAny_bind (wpAny_standAt (wpAny_bind (wpAny_holding (setattr_ok I1 ea c n l r fun s3 I3 => ?_))))
  exact wpAny_release ⟨σ, _, I3, q1⟩
end
theorem same_get {H H' : Hp} {a : Addr} {o : HO} (s : Same H H') (h : H a = some o) : H' a = some o := s a o h
theorem same_upd {H : Hp} {a : Addr} {o : HO} (h : H a = none) : Same H (upd H a o) := fun b u e => by rw [upd_ne (ne_of_none e h)]; exact e
section
variable {σ : L2.St} {H : Hp} {Q : VK} {ta tb te : TE} {x y v : V} {K : PySem.W.Frag} {xs : List V}
theorem w_tupI (hl : xs.length ≤ 1000) (q : ∀ p H', Same H H' → H p = none → H' p = some (.tup xs) → Q (.ref p) H') : TupK xs H Q :=
  ⟨Nat.le_trans hl (by decide), fun p hp => q p _ (same_upd hp) hp upd_same⟩
theorem w_lstI (hl : xs.length ≤ 1000) (q : ∀ p H', Same H H' → H p = none → H' p = some (.lst xs) → Q (.ref p) H') : LstK xs H Q :=
  ⟨Nat.le_trans hl (by decide), fun p hp => q p _ (same_upd hp) hp upd_same⟩
theorem w_tup1 {x1 : V} (q : ∀ p H', Same H H' → H p = none → H' p = some (.tup [x1]) → Q (.ref p) H') : TupK [x1] H Q := w_tupI (by show 1 ≤ 1000; decide) q
theorem w_lst1 {x1 : V} (q : ∀ p H', Same H H' → H p = none → H' p = some (.lst [x1]) → Q (.ref p) H') : LstK [x1] H Q := w_lstI (by show 1 ≤ 1000; decide) q
theorem w_tup2 {x1 x2 : V} (q : ∀ p H', Same H H' → H p = none → H' p = some (.tup [x1, x2]) → Q (.ref p) H') : TupK [x1, x2] H Q := w_tupI (by show 2 ≤ 1000; decide) q
theorem w_lst2 {x1 x2 : V} (q : ∀ p H', Same H H' → H p = none → H' p = some (.lst [x1, x2]) → Q (.ref p) H') : LstK [x1, x2] H Q := w_lstI (by show 2 ≤ 1000; decide) q
theorem w_tup3 {x1 x2 x3 : V} (q : ∀ p H', Same H H' → H p = none → H' p = some (.tup [x1, x2, x3]) → Q (.ref p) H') : TupK [x1, x2, x3] H Q := w_tupI (by show 3 ≤ 1000; decide) q
theorem w_lst4 {x1 x2 x3 x4 : V} (q : ∀ p H', Same H H' → H p = none → H' p = some (.lst [x1, x2, x3, x4]) → Q (.ref p) H') : LstK [x1, x2, x3, x4] H Q := w_lstI (by show 4 ≤ 1000; decide) q
theorem w_lst3 {x1 x2 x3 : V} (q : ∀ p H', Same H H' → H p = none → H' p = some (.lst [x1, x2, x3]) → Q (.ref p) H') : LstK [x1, x2, x3] H Q := w_lstI (by show 3 ≤ 1000; decide) q
theorem w_in {p : Addr} (h : H p = some (.tup xs)) (f1 : flatV x = true) (f2 : xs.all flatV = true) (q : Q (.bl (inV x xs)) H) : rIn K false x (.ref p) H Q := ⟨p, xs, rfl, .inr (SqT.of h), f1, f2, q⟩
theorem w_nin {p : Addr} (h : H p = some (.tup xs)) (f1 : flatV x = true) (f2 : xs.all flatV = true) (q : Q (.bl (!inV x xs)) H) : rIn K true x (.ref p) H Q := ⟨p, xs, rfl, .inr (SqT.of h), f1, f2, q⟩
theorem w_gtup {n : Nat} {t : TGs} {a : Addr} {Q : L2.St → Hp → Prop} (h : H a = some (.tup xs)) (hn : xs.length = n) (q : t xs σ H Q) : gTup K n t (.ref a) σ H Q := ⟨a, xs, rfl, SqT.of h, hn, q⟩
theorem w_gcons {t : TG} {u : TGs} {v : V} {r : List V} {Q : L2.St → Hp → Prop} (h : t v σ H fun σ' H' => u r σ' H' Q) : gCons t u (v :: r) σ H Q := ⟨v, r, rfl, h⟩
theorem w_gnil {Q : L2.St → Hp → Prop} (h : Q σ H) : gNil [] σ H Q := ⟨rfl, h⟩
theorem w_ixT {p : Addr} {i : Int} (h : H p = some (.tup xs)) (ha : atI xs i = some v) (q : Q v H) : rIxT K (.ref p) (.int i) H Q := ⟨p, xs, i, v, rfl, rfl, SqT.of h, ha, q⟩
theorem w_ixL {p : Addr} {i : Int} (h : H p = some (.lst xs)) (ha : atI xs i = some v) (q : Q v H) : rIxL K (.ref p) (.int i) H Q := ⟨p, xs, i, v, rfl, rfl, SqL.of h, ha, q⟩
theorem w_isN (q : Q (.bl (decide (x = .non))) H) : (V.non = .non ∧ Q (.bl (decide (x = .non))) H) := ⟨rfl, q⟩
theorem dec_ii {i j : Int} : decide (V.int i = V.int j) = decide (i = j) := by
  by_cases h : i = j
  · subst h; simp
  · rw [decide_eq_false h, decide_eq_false (fun e => h (V.int.inj e))]
theorem dec_ss {i j : Str} : decide (V.str i = V.str j) = decide (i = j) := by
  by_cases h : i = j
  · subst h; simp
  · rw [decide_eq_false h, decide_eq_false (fun e => h (V.str.inj e))]
theorem dec_is {i : Int} {j : Str} : decide (V.int i = V.str j) = false := decide_eq_false (fun e => nomatch e)
theorem dec_si {i : Int} {j : Str} : decide (V.str j = V.int i) = false := decide_eq_false (fun e => nomatch e)
/-- the test of two ints for equality -/
theorem w_eqI {i j : Int} (q : Q (.bl (decide (i = j))) H) : rEq (.int i) (.int j) H Q := ⟨rfl, by rw [dec_ii]; exact q⟩
theorem w_neI {i j : Int} (q : Q (.bl (!decide (i = j))) H) : rNe (.int i) (.int j) H Q := ⟨rfl, by rw [dec_ii]; exact q⟩
theorem w_eqS {i j : Str} (q : Q (.bl (decide (i = j))) H) : rEq (.str i) (.str j) H Q := ⟨rfl, by rw [dec_ss]; exact q⟩
theorem w_eqIS {i : Int} {j : Str} (q : Q (.bl false) H) : rEq (.int i) (.str j) H Q := ⟨rfl, by rw [dec_is]; exact q⟩
theorem w_eqSI {i : Int} {j : Str} (q : Q (.bl false) H) : rEq (.str j) (.int i) H Q := ⟨rfl, by rw [dec_si]; exact q⟩
/-- the object ahead of a method's call -/
def MethK (C : Addr) (m : Str) (R : V → Hp → Prop) (x : V) (H : Hp) : Prop := ∃ a dx fs, x = .ref a ∧ H a = some (.ins C dx fs) ∧ fs.lookup m = none ∧ R x H
theorem w_meth {C : Addr} {m : Str} {sp : Sp} {dvs : List V} {E : XK} {t : TA} (h : ta σ H fun x H1 => MethK C m (fun x H1 => t σ H1 fun vs H2 => sp (x :: (vs ++ dvs)) H2 Q E) x H1) : tMeth C m sp dvs E ta t σ H Q := h
theorem w_methI {C : Addr} {m : Str} {R : V → Hp → Prop} {a dx : Addr} {fs : List (Str × V)} (h : H a = some (.ins C dx fs)) (l : fs.lookup m = none) (q : R (.ref a) H) : MethK C m R (.ref a) H := ⟨a, dx, fs, rfl, h, l, q⟩
theorem w_nn {R : Prop} (q : R) : V.non = V.non ∧ R := ⟨rfl, q⟩
end
/-- a class whose __init__ has defaults dvs behind what is written -/
structure KnCD (P : Program) (w : World) (K : PySem.W.Frag) (mg : Str → Option Value) (base : Heap) (CX : CXT) (k : Nat) (x : Str) (C : Addr) (ps : List Str) (dvs : List V) (sp : Sp) : Prop where
  ex : ∃ f fd ds, mg x = some (.ref C) ∧ Mk K C f ∧ Vals dvs ds ∧ Binds K fd ps ds ∧ FnOk P w K mg base CX k f fd ps sp
theorem pkCD {X : Cx} {k j : Nat} {x : Str} {ps : List Str} {sp : Sp} {p pos : Pos} {e : Expr} {es : List Expr} {t : TA} {C : Addr} {dvs : List V} (h : KnCD X.prog X.w X.K X.mg X.base CX0 k x C ps dvs sp) (hr : Room j X.A) (ha : PA X (e :: es) t) (hj : k + 1 ≤ j := by decide) (hg : Gl X x := by rfl) (hdb : (x == ("__debug__" : Str)) = false := by decide)
    (he : starEach (e :: es) X.env = (false, eval e X.env) :: starEach es X.env := by rfl) (hpl : (backTo pos (starEach es X.env)).any (·.1) = false := by rfl) : PE X (.Call (.Name x p) (e :: es) [] pos) (tMake C sp dvs E0 t) := by
  obtain ⟨f, fd, ds, a, b, c, d, g⟩ := h.ex
  exact pe_make b g (hr.mono hj) hg a d c pass0 ha hdb he hpl
def MakeKD (C : Addr) (sp : Sp) (dvs vs : List V) (H1 : Hp) (Q : VK) (E : XK) : Prop := ∀ x dx, H1 x = none → H1 dx = none → dx ≠ x → sp (.ref x :: (vs ++ dvs)) (upd (upd H1 dx (.own x)) x (.ins C dx [])) (fun v H2 => v = .non ∧ Q (.ref x) H2) E
theorem w_makeD {C : Addr} {sp : Sp} {E : XK} {t : TA} {dvs : List V} {σ : L2.St} {H : Hp} {Q : VK} (h : t σ H fun vs H1 => MakeKD C sp dvs vs H1 Q E) : tMake C sp dvs E t σ H Q := h
/-- xs * k -/
theorem w_rep {l : Addr} {k : Int} {xs : List V} {H : Hp} {Q : VK} (h : H l = some (.lst xs)) (h1 : -(2 ^ 63) ≤ k) (h2 : k < 2 ^ 63) (h3 : xs.length * k.toNat ≤ sizeLine) (q : ∀ p H', Same H H' → H p = none → H' p = some (.lst (List.replicate k.toNat xs).flatten) → Q (.ref p) H') : rRep (.ref l) (.int k) H Q :=
  ⟨l, k, xs, rfl, rfl, h, h1, h2, h3, fun p hp => q p _ (same_upd hp) hp upd_same⟩
theorem w_lenL {p : Addr} {K : PySem.W.Frag} {xs : List V} {H : Hp} {R : List V → Prop} (h : H p = some (.lst xs)) (q : R xs) : ∃ p' ys, [V.ref p] = [V.ref p'] ∧ (SqL K H p' ys ∨ SqT K H p' ys) ∧ R ys := ⟨p, xs, rfl, .inl (SqL.of h), q⟩
/-- all but what stands at x is as it was -/
def Oth (x : Addr) (H H' : Hp) : Prop := ∀ b o, b ≠ x → H b = some o → H' b = some o
theorem Oth.refl {x : Addr} {H : Hp} : Oth x H H := fun _ _ _ e => e
theorem Oth.same {x : Addr} {H H1 H2 : Hp} (a : Oth x H H1) (s : Same H1 H2) : Oth x H H2 := fun b o hb e => s b o (a b o hb e)
theorem Oth.put {x : Addr} {H H1 : Hp} {o : HO} (a : Oth x H H1) : Oth x H (upd H1 x o) := fun b u hb e => by rw [upd_ne hb]; exact a b u hb e
theorem Oth.trans {x : Addr} {H H1 H2 : Hp} (a : Oth x H H1) (b : Oth x H1 H2) : Oth x H H2 := fun c o hc e => b c o hc (a c o hc e)
theorem Same.oth {x : Addr} {H H1 : Hp} (s : Same H H1) : Oth x H H1 := fun b o _ e => s b o e
end Rd

set_option Elab.async false
set_option linter.all false
set_option maxRecDepth 100000
set_option autoImplicit false
set_option maxHeartbeats 4000000
namespace Rd
open PySem PySem.Spec PyProof.Rows PySem.SeqAt L2
/-! bool - bool -/
theorem sub_bools (a b : Bool) : Gives (Builtin.«int.__sub__» ⟨[.bool a, .bool b], []⟩) (.int ((if a = true then (1 : Int) else 0) - if b = true then (1 : Int) else 0)) :=
  .of_wp fun M A E s Q h => by obtain ⟨hp, g, d, tk, os⟩ := s; wp_walk; exact ⟨_, rfl, h⟩
def rSubB : R2 := fun x y H Q => ∃ a b, x = .bl a ∧ y = .bl b ∧ Q (.int ((if a = true then (1 : Int) else 0) - if b = true then (1 : Int) else 0)) H
theorem op_sub_bb {X : Cx} : OpR X (binaryOp .Sub) rSubB := by
  intro pins s σ H x y v u Q I rx ry h
  obtain ⟨a, b, rfl, rfl, q⟩ := h
  cases rx
  cases ry
  exact binaryOp_gives (op := .Sub) (T := "bool") rfl rfl F.fills_bool_sub F.slot_bool_sub F.entry_int_sub (F.args_int_sub_2 _ _) (sub_bools a b) trivial ⟨.int _, H, I.tok _, ⟨_, rfl⟩, q⟩
theorem w_subB {H : Hp} {Q : VK} {a b : Bool} (q : Q (.int ((if a = true then (1 : Int) else 0) - if b = true then (1 : Int) else 0)) H) : rSubB (.bl a) (.bl b) H Q := ⟨a, b, rfl, rfl, q⟩
/-! == of instances without an __eq__ of their own -/
section
variable {prog : Program} {w : World} {A : Around} {E : Value → Shared → Prop} {s : Shared} {K : PySem.W.Frag} {x y C : Addr} {ox oy : Obj} {od od' : Option Obj}
theorem call_objEqO {Q : Value → Shared → Prop} (X : K.In s.heap) (I : PySem.W.InstAt s.heap x ox C od) (hm : PySem.W.mroIn K C (.type "object") = some true) (hx : s.heap.get? x = some ox) (hy : s.heap.get? y = some oy) (hxy : x ≠ y) (hnt : ox.cls ≠ .type "tuple") (hq : Q .notImplemented s) :
    wpAny (model prog w) A (call (.builtin "object.__eq__") [.ref x, .ref y]) Q E s :=
  wpAny_call (codeAny_call_builtin F.cmp_object.eq.plain F.cmpEntry_eq (PySem.W.check_slot F.cmpKind_eq F.cmpSplit_eq (I.type.andThen (PySem.W.looks_mroIn X hm)) (F.cmpArgs_eq _ _) (objEq_entry_other hxy hx hy hnt hq)))
theorem call_objEqS {Q : Value → Shared → Prop} (X : K.In s.heap) (I : PySem.W.InstAt s.heap x ox C od) (hm : PySem.W.mroIn K C (.type "object") = some true) (hq : Q (.bool true) s) :
    wpAny (model prog w) A (call (.builtin "object.__eq__") [.ref x, .ref x]) Q E s :=
  wpAny_call (codeAny_call_builtin F.cmp_object.eq.plain F.cmpEntry_eq (PySem.W.check_slot F.cmpKind_eq F.cmpSplit_eq (I.type.andThen (PySem.W.looks_mroIn X hm)) (F.cmpArgs_eq _ _) (objEq_entry_same hq)))
theorem rc_other (hu : A.units < cLine) (X : K.In s.heap) (I : PySem.W.InstAt s.heap x ox C od) (I' : PySem.W.InstAt s.heap y oy C od') (hx : s.heap.get? x = some ox) (hy : s.heap.get? y = some oy) (hnt : ox.cls ≠ .type "tuple") (hnt' : oy.cls ≠ .type "tuple") (hxy : x ≠ y)
    (hm : PySem.W.mroIn K C (.type "object") = some true) (hs : PySem.W.findIn K (.ref C) "__eq__" = some (some (.builtin "object.__eq__"))) : RcAt A s (.ref x) (.ref y) false := fun prog w E Q h => by
  have one : wpAny (model prog w) A (tryCompare (.ref x) "__eq__" (.ref y)) (fun r s' => r = none ∧ s' = s) E s := by
    unfold tryCompare
    exact wpAny_bind (HN.ifBound_objEq X I hs (call_objEqO X I hm hx hy hxy hnt (wpAny_pure ⟨rfl, rfl⟩)))
  have two : wpAny (model prog w) A (tryCompare (.ref y) "__eq__" (.ref x)) (fun r s' => r = none ∧ s' = s) E s := by
    unfold tryCompare
    exact wpAny_bind (HN.ifBound_objEq X I' hs (call_objEqO X I' hm hy hx hxy.symm hnt' (wpAny_pure ⟨rfl, rfl⟩)))
  simp only [richCompare, cmpInfo_Eq, oneThing_ref]
  refine wpAny_holding (wpAny_bind (wpAny_cRoomFor hu ?_))
  refine wpAny_bind (I.type.here ?_)
  refine wpAny_bind (I'.type.here ?_)
  rw [if_neg (by simp)]
  refine wpAny_bind (wpAny_pure ?_)
  simp only [Bool.false_eq_true, if_false, Bool.not_false, if_true]
  refine wpAny_bind (m := tryCompare (.ref x) _ (.ref y)) (wpAny_mono one (fun r s1 z => ?_) fun _ _ e => e)
  obtain ⟨z1, z2⟩ := z
  subst z1
  subst z2
  refine wpAny_bind (m := tryCompare (.ref y) _ (.ref x)) (wpAny_mono two (fun r s2 z => ?_) fun _ _ e => e)
  obtain ⟨z1, z2⟩ := z
  subst z1
  subst z2
  exact wpAny_bind (wpAny_rule (wpAny_bind (wpAny_isSame_ref_other hxy hx hy hnt (wpAny_pure h))))
theorem rc_self (hu : A.units < cLine) (X : K.In s.heap) (I : PySem.W.InstAt s.heap x ox C od) (hm : PySem.W.mroIn K C (.type "object") = some true) (hs : PySem.W.findIn K (.ref C) "__eq__" = some (some (.builtin "object.__eq__"))) : RcAt A s (.ref x) (.ref x) true := fun prog w E Q h => by
  have one : wpAny (model prog w) A (tryCompare (.ref x) "__eq__" (.ref x)) (fun r s' => r = some (.bool true) ∧ s' = s) E s := by
    unfold tryCompare
    exact wpAny_bind (HN.ifBound_objEq X I hs (call_objEqS X I hm (wpAny_pure ⟨rfl, rfl⟩)))
  simp only [richCompare, cmpInfo_Eq, oneThing_ref]
  refine wpAny_holding (wpAny_bind (wpAny_cRoomFor hu ?_))
  refine wpAny_bind (I.type.here ?_)
  refine wpAny_bind (I.type.here ?_)
  rw [if_neg (by simp)]
  refine wpAny_bind (wpAny_pure ?_)
  simp only [Bool.false_eq_true, if_false, Bool.not_false, if_true]
  refine wpAny_bind (m := tryCompare (.ref x) _ (.ref x)) (wpAny_mono one (fun r s1 z => ?_) fun _ _ e => e)
  obtain ⟨z1, z2⟩ := z
  subst z1
  subst z2
  exact wpAny_pure h
theorem rc_none2 (hu : A.units < cLine) (X : K.In s.heap) (I : PySem.W.InstAt s.heap x ox C od) (hm : PySem.W.mroIn K C (.type "object") = some true) (hs : PySem.W.findIn K (.ref C) "__eq__" = some (some (.builtin "object.__eq__")))
    (hsub : PySem.W.subIn K (.ref C) (.type "NoneType") = some false) : RcAt A s .none (.ref x) false := fun prog w E Q h => by
  have one : wpAny (model prog w) A (tryCompare (.ref x) "__eq__" .none) (fun r s' => r = none ∧ s' = s) E s := by
    unfold tryCompare
    exact wpAny_bind (HN.ifBound_objEq X I hs (HN.call_objEq X I hm (wpAny_pure ⟨rfl, rfl⟩)))
  have two : wpAny (model prog w) A (tryCompare .none "__eq__" (.ref x)) (fun r s' => r = none ∧ s' = s) E s :=
    wpAny_tryCompare_declines (show s.TypeIs .none "NoneType" from rfl) F.slot_NoneType_eq_refl (call_gives F.slot_NoneType_eq_refl rfl F.entry_NoneType_eq (F.args_NoneType_eq_2 _ _) (NoneType___eq___none_ref_0 x) ⟨rfl, rfl, rfl⟩)
  simp only [richCompare, cmpInfo_Eq]
  refine wpAny_holding (wpAny_bind (wpAny_cRoomFor hu ?_))
  refine wpAny_bind (wpAny_typeOf (show s.TypeIs .none "NoneType" from rfl) ?_)
  refine wpAny_bind (I.type.here ?_)
  rw [if_pos (by simp)]
  refine wpAny_bind ((PySem.W.looks_subIn X hsub).here ?_)
  simp only [Bool.false_eq_true, if_false, Bool.not_false, if_true]
  refine wpAny_bind (m := tryCompare .none _ (.ref x)) (wpAny_mono two (fun r s1 z => ?_) fun _ _ e => e)
  obtain ⟨z1, z2⟩ := z
  subst z1
  subst z2
  refine wpAny_bind (m := tryCompare (.ref x) _ .none) (wpAny_mono one (fun r s2 z => ?_) fun _ _ e => e)
  obtain ⟨z1, z2⟩ := z
  subst z1
  subst z2
  exact wpAny_bind (wpAny_rule (wpAny_bind (wpAny_of_eq (rfl : isSame .none (.ref x) = pure false) (wpAny_pure h))))
end
/-- what the text's class at C must have for the == of object -/
structure ObjC (K : PySem.W.Frag) (C : Addr) : Prop where
  hm : PySem.W.mroIn K C (.type "object") = some true
  hs : PySem.W.findIn K (.ref C) "__eq__" = some (some (.builtin "object.__eq__"))
  hn : PySem.W.subIn K (.ref C) (.type "NoneType") = some false
def InsV (C : Addr) (H : Hp) (x : V) : Prop := ∃ a dx fs, x = .ref a ∧ H a = some (.ins C dx fs)
def rEqO (C : Addr) : R2 := fun x y H Q => (scal x y = true ∨ (InsV C H x ∧ (y = .non ∨ InsV C H y)) ∨ (x = .non ∧ InsV C H y)) ∧ Q (.bl (decide (x = y))) H
theorem op_eqO {X : Cx} {C : Addr} (hu : X.A.units < cLine) (O : ObjC X.K C) : OpR X (compareOp .Eq) (rEqO C) := by
  intro pins s σ H x y v u Q I rx ry h
  obtain ⟨c, q⟩ := h
  rcases c with c | ⟨⟨a, dx, fs, rfl, ha⟩, c⟩ | ⟨rfl, ⟨b, dy, gs, rfl, hb⟩⟩
  · exact op_eq pins s σ H x y v u Q I rx ry ⟨c, q⟩
  · cases rx
    obtain ⟨mA, OA, _⟩ := ins_get I.hok ha
    obtain ⟨od, J, _⟩ := OA.look
    have ga : s.heap.get? a = some (PySem.W.instObj C dx) := OA.obj
    rcases c with rfl | ⟨b, dy, gs, rfl, hb⟩
    · cases ry
      show wpAny (model X.prog X.w) X.A (richCompare .Eq _ _) (EP X pins σ Q) X.xe s
      refine HN.rc_none hu I.kIn J O.hm O.hs X.prog X.w X.xe _ ⟨.bl false, H, I, rfl, ?_⟩
      rw [decide_eq_false (fun e => nomatch e)] at q
      exact q
    · cases ry
      obtain ⟨mB, OB, _⟩ := ins_get I.hok hb
      obtain ⟨od', J', _⟩ := OB.look
      have gb : s.heap.get? b = some (PySem.W.instObj C dy) := OB.obj
      show wpAny (model X.prog X.w) X.A (richCompare .Eq _ _) (EP X pins σ Q) X.xe s
      by_cases hab : a = b
      · subst hab
        refine rc_self hu I.kIn J O.hm O.hs X.prog X.w X.xe _ ⟨.bl true, H, I, rfl, ?_⟩
        rw [decide_eq_true rfl] at q
        exact q
      · refine rc_other hu I.kIn J J' ga gb (by intro e; cases e) (by intro e; cases e) hab O.hm O.hs X.prog X.w X.xe _ ⟨.bl false, H, I, rfl, ?_⟩
        rw [decide_eq_false (fun e => hab (V.ref.inj e))] at q
        exact q
  · cases rx
    cases ry
    obtain ⟨mB, OB, _⟩ := ins_get I.hok hb
    obtain ⟨od', J', _⟩ := OB.look
    show wpAny (model X.prog X.w) X.A (richCompare .Eq _ _) (EP X pins σ Q) X.xe s
    refine rc_none2 hu I.kIn J' O.hm O.hs O.hn X.prog X.w X.xe _ ⟨.bl false, H, I, rfl, ?_⟩
    rw [decide_eq_false (fun e => nomatch e)] at q
    exact q
end Rd

set_option Elab.async false
set_option linter.all false
set_option maxRecDepth 100000
set_option autoImplicit false
set_option maxHeartbeats 4000000
namespace Rd
open PySem PySem.Spec PyProof.Rows L2
section
variable {σ : L2.St} {H : Hp} {Q : VK} {K : PySem.W.Frag}
theorem w_int1 {R : Int → Prop} {S : Bool → Prop} {i : Int} (q : R i) : (∃ i', [V.int i] = [V.int i'] ∧ R i') ∨ (∃ k, [V.int i] = [V.bl k] ∧ S k) := .inl ⟨i, rfl, q⟩
theorem w_intB {R : Int → Prop} {S : Bool → Prop} {k : Bool} (q : S k) : (∃ i', [V.bl k] = [V.int i'] ∧ R i') ∨ (∃ k', [V.bl k] = [V.bl k'] ∧ S k') := .inr ⟨k, rfl, q⟩
theorem w_gsub {to ti : TE} {t : TSet} {v : V} {Q : L2.St → Hp → Prop} (h : to σ H fun o H1 => ti σ H1 fun i H2 => t o i v H2 fun H3 => Q σ H3) : gSub to ti t v σ H Q := h
theorem w_setL {p : Addr} {xs : List V} {k : Int} {j : Nat} {v : V} {Q : Hp → Prop} (h : H p = some (.lst xs)) (hj : ixN xs.length k = some j) (q : Q (upd H p (.lst (xs.set j v)))) : rSetL (.ref p) (.int k) v H Q := ⟨p, xs, k, j, rfl, rfl, h, hj, q⟩
theorem w_for {wi : TI} {g : TG} {tb : TS} {D : Ends} (h : wi σ H fun J H1 => ∃ W : Nat → Nat → L2.St → Hp → Prop, (∃ m, W 0 m σ H1) ∧ ∀ i m σ H, W i m σ H →
  (J.stop i H ∧ D.nx σ H) ∨ (J.go i H ∧ ∃ N : L2.St → Hp → Prop, (∀ σ' H', N σ' H' → ∃ m', m' < m ∧ W (i + 1) m' σ' H') ∧ ∀ x H', J.yld i H x H' → g x σ H' fun σ2 H2 => tb { D with nx := N, ct := N, bk := D.nx } σ2 H2)) : tFor wi g tb D σ H := h
def Rng1K (R : It → Hp → Prop) (j : Int) (H : Hp) : Prop := -(2 ^ 62) ≤ j ∧ j < 2 ^ 62 ∧ R (Itr 0 j.toNat) H
theorem w_rng1 {ta : TA} {R : It → Hp → Prop} (h : ta σ H fun vs H1 => ∃ j : Int, vs = [.int j] ∧ -(2 ^ 62) ≤ j ∧ j < 2 ^ 62 ∧ R (Itr 0 j.toNat) H1) : iRng1 ta σ H R := h
theorem w_iList {tl : TE} {R : It → Hp → Prop} (h : tl σ H fun x H1 => ∃ a, x = .ref a ∧ (∃ xs, SqL K H1 a xs) ∧ R (Itl K a) H1) : iList K tl σ H R := h
theorem w_iTup {tl : TE} {R : It → Hp → Prop} (h : tl σ H fun x H1 => ∃ a, x = .ref a ∧ (∃ xs, SqT K H1 a xs) ∧ R (Itt K a) H1) : iTup K tl σ H R := h
theorem w_rng1I {R : Int → Prop} {j : Int} (h1 : -(2 ^ 62) ≤ j) (h2 : j < 2 ^ 62) (q : R j) : ∃ j' : Int, [V.int j] = [V.int j'] ∧ -(2 ^ 62) ≤ j' ∧ j' < 2 ^ 62 ∧ R j' := ⟨j, rfl, h1, h2, q⟩
theorem w_iListI {R : Addr → Prop} {a : Addr} {xs : List V} (h : H a = some (.lst xs)) (q : R a) : ∃ a', V.ref a = .ref a' ∧ (∃ xs, SqL K H a' xs) ∧ R a' := ⟨a, rfl, ⟨xs, SqL.of h⟩, q⟩
theorem w_iTupI {R : Addr → Prop} {a : Addr} {xs : List V} (h : H a = some (.tup xs)) (q : R a) : ∃ a', V.ref a = .ref a' ∧ (∃ xs, SqT K H a' xs) ∧ R a' := ⟨a, rfl, ⟨xs, SqT.of h⟩, q⟩
/-- xs + ys, lists -/
theorem w_cat {l b : Addr} {xs zs : List V} (h : H l = some (.lst xs)) (h' : H b = some (.lst zs)) (hz : xs.length + zs.length ≤ sizeLine) (q : ∀ p H', Same H H' → H p = none → H' p = some (.lst (xs ++ zs)) → Q (.ref p) H') : rCat (.ref l) (.ref b) H Q :=
  ⟨l, b, xs, zs, rfl, rfl, h, h', hz, fun p hp => q p _ (same_upd hp) hp upd_same⟩
end
theorem cmulW {i j : Int} (h : (Builtin.Int.intBits i : Int) + (Builtin.Int.intBits j : Int) ≤ 134217728) : CMulX i j := h
theorem cpow {i j : Int} (h0 : 0 ≤ j) (h1 : j ≤ 1000000) (h2 : i.natAbs < 2 ^ 64) : CPow i j := ⟨h0, h1, h2⟩
end Rd

set_option Elab.async false
set_option linter.all false
set_option maxRecDepth 100000
set_option autoImplicit false
set_option maxHeartbeats 4000000
namespace Rd
open PySem PySem.Spec PyProof.Rows L2
theorem pe_nev {X : Cx} {e : Expr} : PE X e (fun _ _ _ => False) := ⟨fun _ _ _ _ _ _ h => h.elim⟩
section
variable {σ : L2.St} {H : Hp}
theorem w_while {tc : TT} {tb : TS} {D : Ends} (W : Nat → L2.St → Hp → Prop) {m : Nat} (h0 : W m σ H)
    (h : ∀ m σ H, W m σ H → tc σ H fun b H1 => if b = true then ∃ N : L2.St → Hp → Prop, (∀ σ' H', N σ' H' → ∃ m', m' < m ∧ W m' σ' H') ∧ tb { D with nx := N, ct := N, bk := D.nx } σ H1 else D.nx σ H1) : tWhile tc tb D σ H := ⟨W, ⟨m, h0⟩, h⟩
theorem w_turn {W : Nat → L2.St → Hp → Prop} {m : Nat} {tb : TS} {D : Ends} (h : tb { D with nx := fun σ' H' => ∃ m', m' < m ∧ W m' σ' H', ct := fun σ' H' => ∃ m', m' < m ∧ W m' σ' H', bk := D.nx } σ H) : ∃ N : L2.St → Hp → Prop, (∀ σ' H', N σ' H' → ∃ m', m' < m ∧ W m' σ' H') ∧ tb { D with nx := N, ct := N, bk := D.nx } σ H := ⟨_, fun _ _ z => z, h⟩
end
/-- a if c else b, as a test -/
def tIfT (tc t u : TT) : TT := fun σ H Q => tc σ H fun c H1 => if c = true then t σ H1 Q else u σ H1 Q
theorem pt_ifExp {X : Cx} {c a b : Expr} {pos : Pos} {tc t u : TT} (hc : PT X c tc) (ha : PT X a t) (hb : PT X b u) : PT X (.IfExp c a b pos) (tIfT tc t u) := by
  refine ⟨fun pins s σ H Q I h => ?_⟩
  have e : ∀ wh, isTrue (.IfExp c a b pos) X.env wh = (do if ← isTrue c X.env (eval c X.env) then isTrue a X.env (eval a X.env) else isTrue b X.env (eval b X.env)) := fun wh => by rfl
  rw [e]
  refine wpAny_bind (thn (hc.run pins s σ H _ I h) fun d s1 ⟨H1, I1, q1⟩ => ?_)
  cases d with
  | true => exact ha.run pins s1 σ H1 Q I1 (by rw [if_pos rfl] at q1; exact q1)
  | false => exact hb.run pins s1 σ H1 Q I1 (by rw [if_neg Bool.false_ne_true] at q1; exact q1)
section
variable {σ : L2.St} {H : Hp}
theorem w_ifT {tc t u : TT} {Q : Bool → Hp → Prop} (h : tc σ H fun c H1 => if c = true then t σ H1 Q else u σ H1 Q) : tIfT tc t u σ H Q := h
theorem w_chain {r r' : R2} {ta tb tc : TE} {Q : VK} (h : ta σ H fun x H1 => tb σ H1 fun y H2 => r x y H2 fun z H3 => ∃ k, z = .bl k ∧ if k = true then tc σ H3 fun y' H4 => r' y y' H4 Q else Q (.bl false) H3) : tChain r r' ta tb tc σ H Q := h
/-- data, compared -/
theorem w_eqD {K : PySem.W.Frag} {x y : V} {d e : PyData} {Q : VK} (h1 : Dp K H x d) (h2 : Dp K H y e) (s1 : SeqAt.shaped d = true) (s2 : SeqAt.shaped e = true) (q : Q (.bl (PyData.eqv d e)) H) : rEqD K x y H Q := ⟨d, e, h1, h2, s1, s2, q⟩
end
end Rd

set_option Elab.async false
set_option linter.all false
set_option maxRecDepth 100000
set_option autoImplicit false
set_option maxHeartbeats 4000000
namespace Rd
open PySem PySem.Spec PyProof.Rows L2
/-- list + list, each as it stands, ours or the document's -/
def rCatS (K : PySem.W.Frag) : R2 := fun x y H Q => ∃ l b xs zs, x = .ref l ∧ y = .ref b ∧ SqL K H l xs ∧ SqL K H b zs ∧ xs.length + zs.length ≤ sizeLine ∧ ∀ p, H p = none → Q (.ref p) (upd H p (.lst (xs ++ zs)))
theorem op_catS {X : Cx} : OpR X (binaryOp .Add) (rCatS X.K) := by
  intro pins s σ H x y v u Q I rx ry h
  obtain ⟨l, b, xs, zs, rfl, rfl, hH, hB, hz, q⟩ := h
  cases rx
  cases ry
  obtain ⟨its, r, e, z⟩ := I.list hH
  obtain ⟨its2, r2, e2, z2⟩ := I.list hB
  have l1 := r.length
  have l2 := r2.length
  obtain ⟨⟨cls, dd, data, sl⟩, n, ho, hc, hd, hda⟩ := e
  obtain ⟨⟨cls2, dd2, data2, sl2⟩, n2, ho2, hc2, hd2, hda2⟩ := e2
  simp only at hc hd hda hc2 hd2 hda2
  subst hc hd hda hc2 hd2 hda2
  have ea : its.toArray ++ its2.toArray = (its ++ its2).toArray := by simp
  refine concat_meets ⟨_, ho, rfl⟩ ⟨_, ho2, rfl⟩ noFill_list_add seq_list_add PySem.F.slot_list_add PySem.F.entry_list_add (PySem.F.args_list_add_2 _ _) (list_addW l b its.toArray its2.toArray n n2 none none sl sl2 (by rw [List.size_toArray, List.size_toArray]; omega)) ⟨ho, ho2, ?_⟩
  rw [ea]
  exact ⟨.ref _, _, I.lnew (t' := s.toks) (r.append r2) (by rw [List.length_append]; omega), rfl, q _ I.fresh⟩
section
variable {σ : L2.St} {H : Hp} {Q : VK} {K : PySem.W.Frag}
theorem w_catS {l b : Addr} {xs zs : List V} (h : SqL K H l xs) (h' : H b = some (.lst zs)) (hz : xs.length + zs.length ≤ sizeLine) (q : ∀ p H', Same H H' → H p = none → H' p = some (.lst (xs ++ zs)) → Q (.ref p) H') : rCatS K (.ref l) (.ref b) H Q :=
  ⟨l, b, xs, zs, rfl, rfl, h, SqL.of h', hz, fun p hp => q p _ (same_upd hp) hp upd_same⟩
theorem w_sl {r : V → Option Int → Option Int → Hp → VK → Prop} {te : TE} {tl th : TO} (h : te σ H fun x H1 => tl σ H1 fun l H2 => th σ H2 fun u H3 => r x l u H3 Q) : tSl r te tl th σ H Q := h
theorem w_slL {a : Addr} {xs : List V} {lo hi : Option Int} (h : H a = some (.lst xs)) (q : ∀ p H', Same H H' → H p = none → H' p = some (.lst (cutV xs lo hi)) → Q (.ref p) H') : rSlL K (.ref a) lo hi H Q :=
  ⟨a, xs, rfl, SqL.of h, fun p hp => q p _ (same_upd hp) hp upd_same⟩
theorem w_noPart {Q : Option Int → Hp → Prop} (q : Q none H) : tNoPart σ H Q := q
theorem w_part {te : TE} {Q : Option Int → Hp → Prop} (h : te σ H fun x H' => ∃ i, x = .int i ∧ Q (some i) H') : tPart te σ H Q := h
theorem w_partI {R : Int → Prop} {i : Int} (h : R i) : ∃ j, V.int i = .int j ∧ R j := ⟨i, rfl, h⟩
theorem _root_.L2.SqL.same {a : Addr} {xs : List V} {H' : Hp} (h : SqL K H a xs) (s : Same H H') : SqL K H' a xs := by
  rcases h with h | h
  · rcases h with h | ⟨o, h⟩
    · exact .inl (.inl (s _ _ h))
    · exact .inl (.inr ⟨o, s _ _ h⟩)
  · exact .inr h
theorem cut_mem {xs : List V} {lo hi : Option Int} {x : V} (h : x ∈ cutV xs lo hi) : x ∈ xs := List.mem_of_mem_drop (List.mem_of_mem_take h)
end
theorem w_par3 {i j l : Nat} {ta : TA} {D : Ends} {σ : L2.St} {H : Hp} (h : ta σ H fun vs H1 => ∃ v1 v2 v3, vs = [v1, v2, v3] ∧ D.nx (((σ.set i (some v1)).set j (some v2)).set l (some v3)) H1) : tPar3 i j l ta D σ H := h
end Rd
namespace Nu
open PySem L2
theorem p70 : (2 ^ 70 : Nat) = 1180591620717411303424 := by decide
theorem ixN_nat {n : Nat} {r : Int} (h0 : 0 ≤ r) (h1 : r < n) : ixN n r = some r.toNat := by
  unfold ixN
  rw [if_pos h0, if_pos h1]
end Nu

set_option Elab.async false
set_option linter.all false
set_option maxRecDepth 100000
set_option autoImplicit false
set_option maxHeartbeats 4000000
/-! == and != by a text's own __eq__ -/
namespace Rd
open PySem PySem.Spec PyProof.Rows PySem.SeqAt L2
section
variable {prog : Program} {w : World} {A : Around} {E : Value → Shared → Prop} {s : Shared} {K : PySem.W.Frag} {x y C f : Addr} {ox oy : Obj} {od od' : Option Obj}
theorem ifBound_objNe {M : Model} {args : List Value} {Q : Option Value → Shared → Prop} (X : K.In s.heap) (I : PySem.W.InstAt s.heap x ox C od) (hs : PySem.W.findIn K (.ref C) "__ne__" = some (some (.builtin "object.__ne__")))
    (h : wpAny M A (call (.builtin "object.__ne__") (.ref x :: args)) (fun v => Q (some v)) E s) : wpAny M A (callSpecialIfBound? (.ref x) "__ne__" args) Q E s := by
  simp only [callSpecialIfBound?, bindSpecialIfBound?]
  refine wpAny_holding (wpAny_bind (wpAny_bind (wpAny_bind (I.type.here ((PySem.W.looks_findIn X hs).here ?_)))))
  refine wpAny_bind (wpAny_askSetting (wpAny_ite ?_))
  have fin : wpAny M A (call (.builtin "object.__ne__") ([.ref x] ++ args) >>= fun v => pure (some v)) Q E s := wpAny_bind (wpAny_mono h (fun v s' h' => wpAny_pure h') fun _ _ h' => h')
  split
  · exact wpAny_bind (wpAny_of_eq (F.cmp_object.ne.bind _) (wpAny_pure (by exact fin)))
  · exact wpAny_tryCatch (wpAny_bind (wpAny_of_eq (F.cmp_object.ne.bind _) (wpAny_pure (by exact fin))))
theorem objNe_own (X : K.In s.heap) (I : PySem.W.InstAt s.heap x ox C od) (hs : PySem.W.findIn K (.ref C) "__eq__" = some (some (.ref f))) (hf : PySem.W.isFn K (.ref f) = true) (hu : A.units < cLine) {Q : Fin → Shared → Prop}
    (hcall : wpAny (model prog w) A (call (.ref f) [.ref x, .ref y]) (fun v s' => ∃ b, v = .bool b ∧ Q (.done (.ret (.bool (!b)))) s') E s) :
    wpAny (model prog w) A (Builtin.«object.__ne__» ⟨[.ref x, .ref y], []⟩) Q E s := by
  obtain ⟨h, g, d, t, os⟩ := s
  unfold Builtin.«object.__ne__»
  repeat (first
    | with_reducible refine wpAny_cRoomFor hu ?_
    | (refine wpAny_bind (m := callSpecialIfBound? (.ref x) (Str.ofString "__eq__") [.ref y])
        (PySem.W.ifBound_K X I hs hf (wpAny_mono hcall (fun r s' hr => by
          obtain ⟨b, rfl, hq⟩ := hr
          repeat (first | exact hq | exact wpAny_pure hq | exact wpAny_truthy_bool hq | (refine wpAny_bind (m := truthy (.bool _)) (wpAny_truthy_bool ?_)) | wp_step)) fun _ _ e => e)))
    | wp_step)
theorem rcNe_own {Q : Value → Shared → Prop} (hu : A.units + 1 < cLine) (X : K.In s.heap) (I : PySem.W.InstAt s.heap x ox C od) (I' : PySem.W.InstAt s.heap y oy C od') (hm : PySem.W.mroIn K C (.type "object") = some true)
    (hn : PySem.W.findIn K (.ref C) "__ne__" = some (some (.builtin "object.__ne__"))) (hs : PySem.W.findIn K (.ref C) "__eq__" = some (some (.ref f))) (hf : PySem.W.isFn K (.ref f) = true)
    (hcall : wpAny (model prog w) A.in1 (call (.ref f) [.ref x, .ref y]) (fun v s' => ∃ b, v = .bool b ∧ Q (.bool (!b)) s') E s) :
    wpAny (model prog w) A (richCompare .NotEq (.ref x) (.ref y)) Q E s := by
  have one : wpAny (model prog w) A (tryCompare (.ref x) "__ne__" (.ref y)) (fun r s' => ∃ b, r = some (.bool b) ∧ Q (.bool b) s') E s := by
    unfold tryCompare
    refine wpAny_bind (ifBound_objNe X I hn (wpAny_call (codeAny_call_builtin F.cmp_object.ne.plain F.cmpEntry_ne (PySem.W.check_slot F.cmpKind_ne F.cmpSplit_ne (I.type.andThen (PySem.W.looks_mroIn X hm)) (F.cmpArgs_ne _ _)
      (objNe_own X I hs hf hu (wpAny_mono hcall (fun v s' hv => ?_) fun _ _ e => e))))))
    obtain ⟨b, rfl, hq⟩ := hv
    exact ⟨b, rfl, wpAny_pure ⟨_, rfl, hq⟩⟩
  simp only [richCompare, cmpInfo_NotEq, oneThing_ref]
  refine wpAny_holding (wpAny_bind (wpAny_cRoomFor (Nat.lt_of_succ_lt hu) ?_))
  refine wpAny_bind (I.type.here ?_)
  refine wpAny_bind (I'.type.here ?_)
  rw [if_neg (by simp)]
  refine wpAny_bind (wpAny_pure ?_)
  simp only [Bool.false_eq_true, if_false, Bool.not_false, if_true]
  refine wpAny_bind (m := tryCompare (.ref x) _ (.ref y)) (wpAny_mono one (fun r s1 z => ?_) fun _ _ e => e)
  obtain ⟨b, rfl, hq⟩ := z
  exact wpAny_pure hq
end
/-- what a class must have for == and != by its own __eq__ -/
structure EqC (K : PySem.W.Frag) (C : Addr) : Prop where
  hm : PySem.W.mroIn K C (.type "object") = some true
  hn : PySem.W.findIn K (.ref C) "__ne__" = some (some (.builtin "object.__ne__"))
def rOwn (C : Addr) (g : Bool → Bool) (sp : Sp) : R2 := fun x y H Q => ∃ a b dx dy fs gs, x = .ref a ∧ y = .ref b ∧ H a = some (.ins C dx fs) ∧ H b = some (.ins C dy gs) ∧ sp [.ref a, .ref b] H (fun v H' => ∃ k, v = .bl k ∧ Q (.bl (g k)) H') E0
section
variable {X : Cx} {k j : Nat} {C : Addr} {ps : List Str} {sp : Sp}
theorem op_eqOwn (h : KnM X.prog X.w X.K X.mg X.base CX0 k C "__eq__" ps sp) (hr : Room j X.A) (hj : k ≤ j := by decide) : OpR X (compareOp .Eq) (rOwn C id sp) := by
  obtain ⟨f, fd, M, b, F⟩ := h.ex
  intro pins s σ H x y v u Q I rx ry q
  obtain ⟨a, c, dx, dy, fs, gs, rfl, rfl, ha, hc, q⟩ := q
  cases rx
  cases ry
  obtain ⟨mA, J, _⟩ := ins_get I.hok ha
  obtain ⟨mB, J', _⟩ := ins_get I.hok hc
  obtain ⟨od, J, _⟩ := J.look
  obtain ⟨od', J', _⟩ := J'.look
  obtain ⟨m, hF⟩ := I.fr
  show wpAny (model X.prog X.w) X.A (richCompare .Eq (.ref a) (.ref c)) (EP X pins σ Q) X.xe s
  refine PySem.W.cmp_K (op := .Eq) (tb := .ref C) (hr.mono hj).units0 hF I.ok.mod.kin J J'.type (by simp [PySem.W.notFirst]) M.at_ M.fn ?_
  refine wpAny_mono (run_fn (us := [.ref a, .ref c]) (vs := [.ref a, .ref c]) F (hr.mono hj) b .nil pass0 I (.cons rfl (.cons rfl .nil)) q) (fun r s' z => ?_) fun _ _ e => e
  obtain ⟨z, H', I', rz, k', ez, hq⟩ := z
  subst ez
  cases rz
  exact ⟨.bl k', H', I', rfl, hq⟩
theorem op_neOwn (h : KnM X.prog X.w X.K X.mg X.base CX0 k C "__eq__" ps sp) (O : EqC X.K C) (hr : Room j X.A) (hj : k + 1 ≤ j := by decide) : OpR X (compareOp .NotEq) (rOwn C not sp) := by
  obtain ⟨f, fd, M, b, F⟩ := h.ex
  intro pins s σ H x y v u Q I rx ry q
  obtain ⟨a, c, dx, dy, fs, gs, rfl, rfl, ha, hc, q⟩ := q
  cases rx
  cases ry
  obtain ⟨mA, J, _⟩ := ins_get I.hok ha
  obtain ⟨mB, J', _⟩ := ins_get I.hok hc
  obtain ⟨od, J, _⟩ := J.look
  obtain ⟨od', J', _⟩ := J'.look
  have hr' : Room (k + 1) X.A := hr.mono hj
  show wpAny (model X.prog X.w) X.A (richCompare .NotEq (.ref a) (.ref c)) (EP X pins σ Q) X.xe s
  refine rcNe_own (by have := hr'.un; omega) I.kIn J J' O.hm O.hn M.at_ M.fn ?_
  have e0 : Env0 X.prog X.w X.K X.mg X.base X.A.in1 X.stack s H := by
    have e := I.env0
    exact ⟨e.frames, e.mod, e.bs, e.bsz, e.funs, e.frf, e.hok, e.bare⟩
  have hl := F.len _ _ _ _ q
  have r2 : Vals [V.ref a, V.ref c] [Value.ref a, Value.ref c] := .cons rfl (.cons rfl .nil)
  refine wpAny_call (codeAny_mono (F.run X.A.in1 X.stack s H ⟨[.ref a, .ref c], []⟩ [.ref a, .ref c] [.ref a, .ref c] _ E0 hr'.in1 e0 (by
    have := b s [.ref a, .ref c] I.kIn (by simpa using hl)
    simpa using this) r2 q) fun r s' hq => ?_)
  cases r with
  | error e => exact pass0 pins σ H s e s' I hq
  | ok fl =>
    cases fl with
    | ret w =>
      obtain ⟨z, H', I', rz, k', ez, hq2⟩ := I.after hq
      subst ez
      cases rz
      exact ⟨k', rfl, .bl (!k'), H', I', rfl, hq2⟩
    | next => exact False.elim hq
    | brk => exact False.elim hq
    | cont => exact False.elim hq
end
section
variable {C a b dx dy : Addr} {fs gs : List (Str × V)} {g : Bool → Bool} {sp : Sp} {H : Hp} {Q : VK}
theorem w_own (ha : H a = some (.ins C dx fs)) (hb : H b = some (.ins C dy gs)) (q : sp [.ref a, .ref b] H (fun v H' => ∃ k, v = .bl k ∧ Q (.bl (g k)) H') E0) : rOwn C g sp (.ref a) (.ref b) H Q :=
  ⟨a, b, dx, dy, fs, gs, rfl, rfl, ha, hb, q⟩
end
end Rd

set_option Elab.async false
set_option linter.all false
set_option maxRecDepth 100000
set_option autoImplicit false
set_option maxHeartbeats 4000000
/-! Own classes of exceptions over ArithmeticError, whose __init__ calls the base's and stores. -/
namespace Rd
open PySem PySem.Spec PyProof.Rows L2
abbrev aeMro : List Value := [.type "ArithmeticError", .type "Exception", .type "BaseException", .type "object"]
/-- what the text's class at C must have -/
structure AexC (K : PySem.W.Frag) (C : Addr) : Prop where
  made : PySem.W.excInitIn K C aeMro "ArithmeticError.__new__" = true
  over : PySem.W.excOver K C aeMro = true
  hdC : PySem.W.hasDictIn K C = true
  sa : PySem.W.findIn K (.ref C) "__setattr__" = some (some (.builtin "object.__setattr__"))
  exC : PySem.W.subIn K (.ref C) (.type "BaseException") = some true
  tyC : PySem.W.typeIn K (.ref C) = some (.type "type")
  kC : PySem.W.keepIn K (.ref C) = true
theorem aex_taker {K : PySem.W.Frag} {C : Addr} {f : Str} (n : PySem.W.findIn K (.ref C) f = some none) : PySem.W.takerIn K C f = some none := NoAttr.taker n
section
variable {X : Cx} {pins : List (Addr × Obj)} {σ : L2.St} {H : Hp} {s : Shared} {a C dx : Addr} {f : Str} {y : V} {u : Value} {fs : List (Str × V)} {Q : Unit → Shared → Prop} {E : Value → Shared → Prop} {A : Around}
theorem ast_new (T : AexC X.K C) (I : Inv X pins σ H s) (e : H a = some (exo a C none)) (hno : PySem.W.findIn X.K (.ref C) f = some none) (ry : RelV y u)
    (h : ∀ dx s', H dx = none → dx ≠ a → Inv X pins σ (upd (upd H a (exo a C (some dx))) dx (exd dx [(f, y)])) s' → Q () s') : wpAny (model X.prog X.w) A (setAttr (.ref a) f u) Q E s := by
  obtain ⟨t1, ho⟩ := exo_at I.hok e
  obtain ⟨cd, hc, hd'⟩ := PySem.W.any_some T.hdC
  obtain ⟨hp, g, d, t, os⟩ := s
  have an : a ≠ hp.objs.size := Nat.ne_of_lt (Heap.lt_size ho)
  refine PySem.W.set_plain I.kIn (ox := PySem.W.excObj C t1 none .none) (od := none) ⟨ho, rfl, rfl, trivial⟩ T.sa (PySem.W.osa_openX (od := none) PySem.F.store_ArithmeticError I.kIn ⟨ho, rfl, rfl, trivial⟩ T.over (aex_taker hno) fun b => ?_)
  refine wpAny_bind (wpAny_pure (wpAny_bind (PySem.W.instanceDict_exc (c2 := Value.none) ho (PySem.W.looks_clsIn I.kIn hc) hd' ?_)))
  refine PySem.HandSPX.store_in_new (dx := hp.objs.size) ?_ fun h' tk' hn hs => ?_
  · exact ⟨_, #[], _, (Heap.get?_update_ne _ _ _ _ an.symm).trans (Heap.get?_push_at rfl rfl), rfl, fun e he => absurd he (by simp), fun _ => rfl⟩
  · have hnd : H hp.objs.size = none := I.hok.fresh (Nat.le_refl _)
    have h1a : (hp.update a fun o => { o with dict := some hp.objs.size }).get? a = some (PySem.W.excObj C t1 (some hp.objs.size) .none) := Heap.get?_update_self _ ho rfl
    have J1 := I.write (t' := tk') (x := a) (e := a) (o := exo a C (some hp.objs.size)) (h' := hp.update a fun o => { o with dict := some hp.objs.size }) (by rw [e]; exact True.intro) (.inl rfl) (fun b o hb q => (Heap.get?_update_ne _ _ _ _ hb).trans q) ⟨_, h1a⟩ (exo_ok h1a)
    refine h hp.objs.size _ hnd an.symm (J1.laid (t' := tk') (a := hp.objs.size) (o := exd hp.objs.size [(f, y)]) (h' := h') (fun b o q => ?_) (by simp) (exd_ok hn (relO_put (fs := []) ry fun g => True.intro)))
    by_cases hb : b = a
    · subst hb
      refine (hs.2 _ an).trans ((Heap.get?_update_self _ (Heap.get?_push_of_some _ ho) rfl).trans ?_)
      exact h1a.symm.trans q
    · have q0 : hp.get? b = some o := (Heap.get?_update_ne _ _ _ _ hb).symm.trans q
      exact (hs.2 b (Nat.ne_of_lt (Heap.lt_size q0))).trans ((Heap.get?_update_ne _ _ _ _ hb).trans (Heap.get?_push_of_some _ q0))
theorem ast_old (T : AexC X.K C) (I : Inv X pins σ H s) (e : H a = some (exo a C (some dx))) (ed : H dx = some (exd dx fs)) (hl : fs.length ≤ 900) (hno : PySem.W.findIn X.K (.ref C) f = some none) (ry : RelV y u)
    (h : ∀ s', Inv X pins σ (upd H dx (exd dx ((f, y) :: fs))) s' → Q () s') : wpAny (model X.prog X.w) A (setAttr (.ref a) f u) Q E s := by
  obtain ⟨t1, ho⟩ := exo_at I.hok e
  obtain ⟨mA, hns, rel⟩ := exd_at I.hok ed
  have hw := within_of rel
  obtain ⟨cd, hc, hd'⟩ := PySem.W.any_some T.hdC
  obtain ⟨hp, g, d, t, os⟩ := s
  obtain ⟨oD, _, _, hoD, _, _⟩ := hns.count hw
  refine PySem.W.set_plain I.kIn (ox := PySem.W.excObj C t1 (some dx) .none) (od := some oD) ⟨ho, rfl, rfl, hoD⟩ T.sa (PySem.W.osa_openX (od := some oD) PySem.F.store_ArithmeticError I.kIn ⟨ho, rfl, rfl, hoD⟩ T.over (aex_taker hno) fun b => ?_)
  refine wpAny_bind (wpAny_pure (wpAny_bind (wpAny_bind (wpAny_loadPart ho (wpAny_bind ((PySem.W.looks_clsIn I.kIn hc).at ?_))))))
  rw [hd']
  refine wpAny_pure (a := some dx) (PySem.OEX.store_in_old hns hw (by rw [List.length_map]; omega) fun h' tk' hn hs => ?_)
  have hd : ∃ o, h'.get? dx = some o := by
    obtain ⟨o, _, _, e', _⟩ := hn
    exact ⟨o, e'⟩
  exact h _ (I.write (t' := tk') (x := dx) (e := dx) (o := exd dx ((f, y) :: fs)) (by rw [ed]; exact True.intro) (.inl rfl) (fun b o hb q => (hs.2 b hb).trans q) hd (exd_ok hn (relO_put ry rel)))
/-- the base's __init__: nothing of it is told -/
theorem ainit_ok {us : List Value} {Q : Value → Shared → Prop} (T : AexC X.K C) (I : Inv X pins σ H s) (e : H a = some (exo a C none)) (hl : us.length ≤ sizeLine) (h : ∀ s', Inv X pins σ H s' → Q .none s') :
    wpAny (model X.prog X.w) A (call (.builtin "ArithmeticError.__init__") (.ref a :: us)) Q E s := by
  obtain ⟨nm, N, q, bs, bm, hdct, sn, sub, ab, col, dd, k0, k1, k2, k3, k5, hC, hT⟩ := PySem.W.excInit_of I.kIn T.made
  obtain ⟨t1, ho⟩ := exo_at I.hok e
  obtain ⟨hp, g, d, t, os⟩ := s
  refine wpAny_call (PySem.HandSPX.init_base F.excBase_ArithmeticError hT hC ho hl fun h' t2 k hx => ?_)
  have J := I.write (t' := t) (x := a) (e := a) (o := exo a C none) (by rw [e]; exact True.intro) (.inl rfl) k ⟨_, hx⟩ (exo_ok hx)
  rw [show upd H a (exo a C none) = H from funext fun b => by by_cases hb : b = a <;> simp [upd, hb, e]] at J
  exact h _ J
end
end Rd
namespace Rd
open PySem PySem.Spec PyProof.Rows L2
theorem typ_AE : typeOf (.type "ArithmeticError") = pure (.type "type") := by kernel_rfl
/-- ArithmeticError.__init__(self, ..) -/
def tAI (K : PySem.W.Frag) (ta : TA) : TE := fun σ H Q => ta σ H fun vs H1 => ∃ (a C : Addr) (ws : List V), vs = .ref a :: ws ∧ ws.length ≤ 1000 ∧ AexC K C ∧ H1 a = some (exo a C none) ∧ Q .non H1
/-- self.f = e, self an exception that is being made -/
def tAst (K : PySem.W.Frag) (f : Str) (to te : TE) : TS := fun D σ H => te σ H fun y H1 => to σ H1 fun x H2 => ∃ a C : Addr, x = .ref a ∧ AexC K C ∧ PySem.W.findIn K (.ref C) f = some none ∧
  ((H2 a = some (exo a C none) ∧ ∀ dx, H2 dx = none → dx ≠ a → D.nx σ (upd (upd H2 a (exo a C (some dx))) dx (exd dx [(f, y)]))) ∨
    ∃ (dx : Addr) (fs : List (Str × V)), H2 a = some (exo a C (some dx)) ∧ H2 dx = some (exd dx fs) ∧ fs.length ≤ 900 ∧ D.nx σ (upd H2 dx (exd dx ((f, y) :: fs))))
section
variable {X : Cx} {o e : Expr} {es : List Expr} {to te : TE} {ta : TA} {f : Str} {p p' p1 p2 pos : Pos}
theorem pe_ainit {pl : Sem Bool} (hg : Gl X "ArithmeticError") (hm : X.mg "ArithmeticError" = none) (vV : PySem.W.findCls X.K (.type "ArithmeticError") (.type "type") "__init__" = some (.val (.builtin "ArithmeticError.__init__"))) (ha : PA X (e :: es) ta)
    (hc : eval (.Call (.Attribute (.Name "ArithmeticError" p1) "__init__" p2) (e :: es) [] pos) X.env = (do
      let ov ← eval (.Name "ArithmeticError" p1) X.env
      standAt p2.atName
      let (f, first) ← holding [ov] (getMethod ov "__init__" pl)
      callWith pos f first (backTo pos (starEach (e :: es) X.env)) (backToKw pos (keywordEach [] X.env))) := by rfl)
    (he : starEach (e :: es) X.env = (false, eval e X.env) :: starEach es X.env := by rfl) (hpl : (backTo pos (starEach es X.env)).any (·.1) = false := by rfl) :
    PE X (.Call (.Attribute (.Name "ArithmeticError" p1) "__init__" p2) (e :: es) [] pos) (tAI X.K ta) := by
  refine ⟨fun pins s σ H Q I h => PySem.W.methodCall_KW (ld_blt I hg hm PyProof.Rows.Boot.«ArithmeticError» ?_ (by decide) (by decide)) hc⟩
  obtain ⟨m, fr⟩ := I.fr
  refine PySem.W.method_type fr I.ok.mod.kin typ_AE (by decide +kernel) vV (by decide +kernel) ?_
  refine PyProof.Rows.callWith_method1 (thn (ha.run pos pins _ σ H _ (I.tok _) h) fun us s1 ⟨vs, H1, I1, r1, a, C, ws, ev, hl, T, ea, q⟩ => ?_) he hpl
  subst ev
  cases r1 with
  | @cons _ u0 _ ur ra rw' =>
    obtain rfl : u0 = Value.ref a := ra
    exact ainit_ok T I1 ea (by rw [← Paired.length rw', sizeLine_eq]; omega) fun s' J => ⟨.non, H1, J, rfl, q⟩
theorem ps_ast (ho : PE X o to) (he : PE X e te) (hs : swapsWith e (some (.Attribute o f p')) pos.line X.env = pure false := by rfl) : PS X (.Assign [.Attribute o f p'] e pos) (tAst X.K f to te) := by
  refine ⟨fun pins s σ H D I h => plainObj_wpAny_Assign_Attribute (thn (he.run pins s σ H _ I h) fun v s1 ⟨y, H1, I1, r1, q1⟩ => thn (ho.run pins s1 σ H1 _ I1 q1) fun u s2 ⟨x, H2, I2, r2, a, C, ex, T, hno, q⟩ => ?_) hs⟩
  subst ex
  obtain rfl : u = Value.ref a := r2
  rcases q with ⟨ea, q⟩ | ⟨dx, fs, ea, ed, hl, q⟩
  · exact ast_new T I2 ea hno r1 fun dx s' n ne J => ⟨σ, _, J, q dx n ne⟩
  · exact ast_old T I2 ea ed hl hno r1 fun s' J => ⟨σ, _, J, q⟩
/-- C(e, ..), C over ArithmeticError with its own __init__ -/
theorem pmk_aex {CX : CXT} {x : Str} {C fI : Addr} {k : Nat} {fd : FuncData} {ps : List Str} {sp : Sp} {ds : List Value} {dvs : List V} (T : AexC X.K C) (iC : PySem.W.findIn X.K (.ref C) "__init__" = some (some (.ref fI))) (tI : PySem.W.typeIn X.K (.ref fI) = some (.type "function"))
    (F1 : FnOk X.prog X.w X.K X.mg X.base CX k fI fd ps sp) (hr : Room (k + 1) X.A) (hb : Binds X.K fd ps ds) (hd : Vals dvs ds) (hx : Passes CX X (fun _ _ _ => False)) (hg : Gl X x) (hm : X.mg x = some (.ref C)) (ha : PA X (e :: es) ta)
    (hdb : (x == ("__debug__" : Str)) = false := by decide) (he : starEach (e :: es) X.env = (false, eval e X.env) :: starEach es X.env := by rfl) (hpl : (backTo pos (starEach es X.env)).any (·.1) = false := by rfl) :
    PMk X (.Call (.Name x p) (e :: es) [] pos) (tMkO C sp dvs ta) := by
  intro pins s σ H Q I h
  refine wpAny_Call_Name_kw (ld_glob I hg hm (PySem.W.callWith_K (h₀ := X.base) I.ok.mod.kin T.kC (thn (ha.run pos pins s σ H _ I h) fun us s1 ⟨vs, H1, I1, r1, hz, q1⟩ => ⟨I1.kIn, ?_⟩) he hpl) hdb)
  obtain ⟨nm, N, q, bs, bm, hdct, sn, sub, ab, col, dd, k0, k1, k2, k3, k5, hC, hT⟩ := PySem.W.excInit_of I1.kIn T.made
  show wpAny _ _ (call (.ref C) us) _ _ _
  obtain ⟨hp, g, dr, tk, os⟩ := s1
  have hsz : hp.objs.size ≤ hp.objs.size + 1 := Nat.le_succ _
  have hq := q1 (hp.objs.size + 1) (I1.hok.fresh hsz)
  have kk : ∀ b o, hp.get? b = some o → ((hp.push (PySem.W.kdv_tup us)).push (PySem.HandSPX.excO C hp.objs.size)).get? b = some o := fun b o z => Heap.get?_push_of_some _ (Heap.get?_push_of_some _ z)
  have I2 := I1.laid (t' := tk) (a := hp.objs.size + 1) (o := exo (hp.objs.size + 1) C none) (h' := (hp.push (PySem.W.kdv_tup us)).push (PySem.HandSPX.excO C hp.objs.size)) kk hsz (exo_ok (by heap_get))
  have r2 : Vals (V.ref (hp.objs.size + 1) :: (vs ++ dvs)) (Value.ref (hp.objs.size + 1) :: (us ++ ds)) := .cons rfl (r1.append hd)
  have hl : (Value.ref (hp.objs.size + 1) :: us ++ ds).length = ps.length := (r2.length.symm.trans (F1.len _ _ _ _ hq))
  refine wpAny_call (PySem.HandSPX.call_own F.excBase_ArithmeticError hT hC (PySem.W.looks_findIn I1.kIn iC) (fun self => PySem.W.bind_fn I1.kIn self tI) (by rw [← Paired.length r1, sizeLine_eq]; omega)
    (codeAny_mono (F1.run _ X.stack _ _ ⟨Value.ref (hp.objs.size + 1) :: us, []⟩ (Value.ref (hp.objs.size + 1) :: (us ++ ds)) _ _ (fun _ _ _ => False) (hr.make C us []) (I2.env0.make C us []) (hb _ (Value.ref (hp.objs.size + 1) :: us) I2.kIn hl) r2 hq) fun r s' hq' => ?_))
  match r, hq' with
  | .error er, hq' => exact hx pins σ _ _ er s' I2 hq'
  | .ok (.ret u), hq' =>
    obtain ⟨v, H2, os2, bare2, un2, hok2, rv, ev, d, fs, ea, ed, hd1, q2⟩ := hq'
    subst ev
    obtain ⟨h2, g2, d2, t2, os'⟩ := s'
    exact ⟨rv, mk_end (raises_own T.exC T.tyC) I1 hsz kk un2 hok2 os2 bare2 ea ed hd1 q2⟩
  | .ok .next, hq' => exact False.elim hq'
  | .ok .brk, hq' => exact False.elim hq'
  | .ok .cont, hq' => exact False.elim hq'
end
end Rd

set_option Elab.async false
set_option linter.all false
set_option maxRecDepth 100000
set_option autoImplicit false
set_option maxHeartbeats 4000000
/-! Thrown(value): its own __init__, raised, caught, its field read. -/
namespace Rd
open PySem PySem.Spec PyProof.Rows L2
/-- a statement, an expression that is never reached -/
theorem pe_never {X : Cx} {e : Expr} : PE X e (fun _ _ _ => False) := ⟨fun _ _ _ _ _ _ h => h.elim⟩
def thrFs (v : V) : List (Str × V) := [("level", .int 1), ("value", v)]
def spThr (C : Addr) : Sp := fun vs H Q _ => ∃ x v, vs = [.ref x, v, .int 1] ∧ H x = some (exo x C none) ∧
  ∀ d, H d = none → d ≠ x → Q .non (upd (upd (upd H x (exo x C (some d))) d (exd d [("value", v)])) d (exd d (thrFs v)))
/-- the class Thrown -/
structure KnTh (P : Program) (w : World) (K : PySem.W.Frag) (mg : Str → Option Value) (base : Heap) (C : Addr) : Prop where
  ex : ∃ f fd ds, mg "Thrown" = some (.ref C) ∧ AexC K C ∧ PySem.W.findIn K (.ref C) "__init__" = some (some (.ref f)) ∧ PySem.W.typeIn K (.ref f) = some (.type "function") ∧ Vals [V.int 1] ds ∧
    Binds K fd ["self", "value", "level"] ds ∧ FnOk P w K mg base CX0 1 f fd ["self", "value", "level"] (spThr C)
def tThr (C : Addr) (ta : TA) (W : WX) : TS := fun _ σ H => tMkO C (spThr C) [.int 1] ta σ H fun cls d H' => W cls d σ H'
section
variable {X : Cx} {C : Addr} {j : Nat} {a : Expr} {es : List Expr} {ta : TA} {p pos pos2 : Pos} {W : WX} {x : Str} {ps : List Str} {sp : Sp} {k : Nat}
theorem ps_thr (hc : X.calm = true) (h : KnTh X.prog X.w X.K X.mg X.base C) (hr : Room j X.A) (tk : Takes X W) (ha : PA X [a] ta) (hj : 2 ≤ j := by decide) (hg : Gl X "Thrown" := by rfl)
    (he : starEach (a :: []) X.env = (false, eval a X.env) :: starEach [] X.env := by rfl) (hpl : (backTo pos (starEach [] X.env)).any (·.1) = false := by rfl) :
    PS X (.Raise (some (.Call (.Name "Thrown" p) [a] [] pos)) none pos2) (tThr C ta W) := by
  obtain ⟨f, fd, ds, m, T, iC, tI, hd, hb, F⟩ := h.ex
  exact ps_raise hc tk (pmk_aex T iC tI F (hr.mono hj) hb hd pass0 hg m ha (by decide) he hpl)
/-- f(e, ..), f may raise -/
theorem pkX (h : Kn X.prog X.w X.K X.mg X.base (L2.CX X.prog X.w) k x ps sp) (hr : Room j X.A) (tk : Takes X W) (ha : PA X (a :: es) ta) (hj : k ≤ j := by decide) (hg : Gl X x := by rfl) (hdb : (x == ("__debug__" : Str)) = false := by decide)
    (he : starEach (a :: es) X.env = (false, eval a X.env) :: starEach es X.env := by rfl) (hpl : (backTo pos (starEach es X.env)).any (·.1) = false := by rfl) : PE X (.Call (.Name x p) (a :: es) [] pos) (tCallS sp (WE W) ta) := by
  obtain ⟨f, fd, m, kp, b, F⟩ := h.ex
  exact pe_callS F (hr.mono hj) hg m kp b (fun σ => passAt tk σ) ha hdb he hpl
end
section
variable {σ : L2.St} {H : Hp} {C : Addr} {W : WX} {D : Ends}
def MkOK (C : Addr) (sp : Sp) (dvs vs : List V) (H1 : Hp) (Q : XK) : Prop := vs.length ≤ 1000 ∧ ∀ a, H1 a = none → sp (.ref a :: (vs ++ dvs)) (upd H1 a (exo a C none))
  (fun v H2 => v = .non ∧ ∃ (d : Addr) (fs : List (Str × V)), H2 a = some (exo a C (some d)) ∧ H2 d = some (exd d fs) ∧ H1 d = none ∧ Q (.ref C) (some d) (upd (del H2 a) d (.xd fs))) (fun _ _ _ => False)
theorem w_thr {ta : TA} (h : ta σ H fun vs H1 => MkOK C (spThr C) [.int 1] vs H1 fun cls d H' => W cls d σ H') : tThr C ta W D σ H := h
theorem w_thrI {v : V} {Q : XK} (q : ∀ d H', Same H H' → H d = none → H' d = some (.xd (thrFs v)) → Q (.ref C) (some d) H') : MkOK C (spThr C) [.int 1] [v] H Q := by
  refine ⟨by show 1 ≤ 1000; decide, fun a ha => ⟨a, v, rfl, upd_same, fun d hd hda => ?_⟩⟩
  rw [upd_ne hda] at hd
  refine ⟨rfl, d, thrFs v, ?_, upd_same, hd, q d _ (fun b o e => ?_) hd upd_same⟩
  · rw [upd_ne (Ne.symm hda), upd_ne (Ne.symm hda), upd_same]
  · have ba : b ≠ a := ne_of_none e ha
    have bd : b ≠ d := ne_of_none e hd
    rw [upd_ne bd, del_ne ba, upd_ne bd, upd_ne bd, upd_ne ba, upd_ne ba]
    exact e
theorem w_callS {sp : Sp} {t : TA} {E : L2.St → XK} {Q : VK} (h : t σ H fun vs H1 => sp vs H1 Q (E σ)) : tCallS sp E t σ H Q := h
end
end Rd

set_option Elab.async false
set_option linter.all false
set_option maxRecDepth 100000
set_option autoImplicit false
set_option maxHeartbeats 4000000
/-! a, b, .. = l, l a list -/
namespace Rd
open PySem PySem.Spec PyProof.Rows L2
section
variable {prog : Program} {w : World} {A : Around} {E : Value → Shared → Prop}
theorem draw_lst {it l : Addr} {xs : Array Value} (ne : l ≠ it) (n : Nat) : ∀ (i : Nat) (s : Shared) (Q : List Value → Shared → Prop), s.heap.IsListIter it l i → s.heap.IsList l xs → i + n ≤ xs.size →
    (∀ h', h'.IsListIter it l (i + n) → Heap.SameBut it s.heap h' → Q ((xs.toList.drop i).take n) { s with heap := h' }) → wpAny (model prog w) A (draw (.ref it) n) Q E s := by
  induction n with
  | zero =>
    intro i s Q hi hl _ q
    exact wpAny_pure (a := []) (by simpa using q s.heap hi (Heap.SameBut.refl ..))
  | succ n ih =>
    intro i s Q hi hl hz q
    have lt : i < xs.size := by omega
    refine wpAny_bind (m := pyNext (.ref it)) (wpAny_pyNext_list_item hi hl (x := xs[i]) (by simp [lt]) fun h1 i1 s1 => wpAny_bind (wpAny_holding (ih (i + 1) _ _ i1 (hl.extBut s1.extBut ne) (by omega) fun h2 i2 s2 => wpAny_pure ?_)))
    have e : xs.toList.drop i = xs[i] :: xs.toList.drop (i + 1) := by simp [List.drop_eq_getElem_cons, lt]
    have r := q h2 (by rw [show i + (n + 1) = i + 1 + n by omega]; exact i2) (s1.trans s2)
    rw [e, List.take_succ_cons] at r
    exact r
theorem unpack_lst {s : Shared} {l : Addr} {xs : Array Value} {ts : List (Bool × (Value → Sem Unit))} {Q : Unit → Shared → Prop} (hh : A.handled = none) (hl : s.heap.IsList l xs) (hn : ts.length = xs.size) (hs : ts.findIdx? (·.1) = none)
    (q : ∀ h', Heap.ExtBut s.heap.objs.size s.heap h' → wpAny (model prog w) A (assignInOrder (ts.map (·.2)) xs.toList) Q E { s with heap := h' }) : wpAny (model prog w) A (unpack (.ref l) ts) Q E s := by
  have ne : l ≠ s.heap.objs.size := by
    obtain ⟨o, ho, _⟩ := hl
    exact Nat.ne_of_lt (Heap.lt_size ho)
  unfold unpack unpackItems notIterableAtAll
  rw [hn, hs]
  refine wpAny_bind (wpAny_holding (wpAny_bind (wpAny_bind (wpAny_specialOf hl.typeIs slot_list_iter.lookup (wpAny_pure ?_)))))
  rw [if_neg Bool.false_ne_true]
  refine wpAny_bind (wpAny_holding (wpAny_pyIter_list hl ?_))
  refine wpAny_bind (wpAny_holding (draw_lst ne xs.size 0 _ _ ⟨_, Heap.get?_push_size _ rfl, rfl, rfl⟩ (hl.push _) (by omega) fun h1 i1 s1 => ?_))
  rw [List.drop_zero, List.take_of_length_le (by simp), if_neg (by simp)]
  refine wpAny_bind (wpAny_holding (wpAny_pyNext_list_end hh i1 ((hl.push _).extBut s1.extBut ne) (by simp) fun h2 e2 => ?_))
  rw [if_neg (by simp)]
  exact wpAny_pure (q h2 fun b o hb e => e2 b o hb (s1.extBut b o hb (Heap.get?_push_of_some _ e)))
end
section
variable {X : Cx}
/-- targets of a list's items -/
def gLst (K : PySem.W.Frag) (n : Nat) (t : TGs) : TG := fun v σ H Q => ∃ a xs, v = .ref a ∧ SqL K H a xs ∧ xs.length = n ∧ t xs σ H Q
theorem pg_lst {es : List Expr} {k : Nat} {pos : Pos} {t : TGs} {n : Nat} (hc : X.calm = true) (h : PGs X es t) (hn : (assignEach es X.env).length = n := by rfl) (hst : (assignEach es X.env).findIdx? (·.1) = none := by rfl) : PG X (.Tuple es k pos) (gLst X.K n t) := by
  refine ⟨fun pins s σ H v u Q I r ⟨a, xs, e1, hq, hl, hw⟩ => ?_⟩
  subst e1
  cases r
  obtain ⟨its, rv, hp, hz⟩ := I.list hq
  rw [assign_Tuple]
  refine wpAny_bind (wpAny_standAt (unpack_lst (I.ok.hd hc) hp.isList (by simp [hn, ← hl, rv.length]) hst fun h' hx => ?_))
  exact h.run pins _ σ H xs _ Q (I.kept (t' := s.toks) fun b o e => hx b o (Nat.ne_of_lt (Heap.lt_size e)) e) (by simpa using rv) hw
theorem w_glst {K : PySem.W.Frag} {n : Nat} {t : TGs} {a : Addr} {xs : List V} {σ : L2.St} {H : Hp} {Q : L2.St → Hp → Prop} (h : H a = some (.lst xs)) (hn : xs.length = n) (q : t xs σ H Q) : gLst K n t (.ref a) σ H Q := ⟨a, xs, rfl, SqL.of h, hn, q⟩
end
end Rd

set_option Elab.async false
set_option linter.all false
set_option maxRecDepth 100000
set_option autoImplicit false
set_option maxHeartbeats 4000000
namespace Nu
open PySem PySem.Spec PyProof.Rows L2 Rd
def top (i : Nat) : Stmt := PySem.Challenge.pw_walkmade_k03_whole_quotients_and_what_is.main.body.getD i (.Pass ⟨0, 0, 0, 0⟩)
abbrev s_Float_init : Stmt := inClass (top 12) 0
abbrev s_Float_is_finite : Stmt := inClass (top 12) 4
abbrev s_Float_ratio : Stmt := inClass (top 12) 5
abbrev s_is_plain : Stmt := top 13
abbrev s_reduced : Stmt := top 14
abbrev s_fits : Stmt := top 15
abbrev s_sign_of : Stmt := top 16
abbrev s_infinity : Stmt := top 18
abbrev s_nearest : Stmt := top 19
abbrev s_to_float : Stmt := top 21
/-! ### floats as data -/
inductive Fl where
  | fin (s t p : Int)
  | inf (s : Int)
  | nan
  deriving DecidableEq
def Fl.s : Fl → Int
  | .fin s _ _ => s
  | .inf s => s
  | .nan => 1
def Fl.t : Fl → V
  | .fin _ t _ => .int t
  | .inf _ => .str "inf"
  | .nan => .str "nan"
def Fl.p : Fl → Int
  | .fin _ _ p => p
  | _ => 0
def flds (s : Int) (t : V) (p : Int) : List (Str × V) := putF "power" (.int p) (putF "top" t (putF "sign" (.int s) []))
theorem ne_st : ¬ ("sign" : Str) = "top" := by decide +kernel
theorem ne_sp : ¬ ("sign" : Str) = "power" := by decide +kernel
theorem ne_tp : ¬ ("top" : Str) = "power" := by decide +kernel
theorem flds_s (s : Int) (t : V) (p : Int) : (flds s t p).lookup ("sign" : Str) = some (.int s) := by
  unfold flds
  rw [lookup_putF, if_neg ne_sp, lookup_putF, if_neg ne_st, lookup_putF, if_pos rfl]
theorem flds_t (s : Int) (t : V) (p : Int) : (flds s t p).lookup ("top" : Str) = some t := by
  unfold flds
  rw [lookup_putF, if_neg ne_tp, lookup_putF, if_pos rfl]
theorem flds_p (s : Int) (t : V) (p : Int) : (flds s t p).lookup ("power" : Str) = some (.int p) := by
  unfold flds
  rw [lookup_putF, if_pos rfl]
theorem flds_no (s : Int) (t : V) (p : Int) {m : Str} (h1 : ¬ m = "sign") (h2 : ¬ m = "top") (h3 : ¬ m = "power") : (flds s t p).lookup m = none := by
  unfold flds
  rw [lookup_putF, if_neg h3, lookup_putF, if_neg h2, lookup_putF, if_neg h1]
  rfl
/-- the float f stands at a -/
def FlAt (C : Addr) (H : Hp) (a : Addr) (f : Fl) : Prop := ∃ dx, H a = some (.ins C dx (flds f.s f.t f.p))
theorem FlAt.same {C : Addr} {H H' : Hp} {a : Addr} {f : Fl} (h : FlAt C H a f) (s : Same H H') : FlAt C H' a f := let ⟨dx, e⟩ := h; ⟨dx, s _ _ e⟩
/-- a float that stands is well made -/
def Fl.ok : Fl → Prop
  | .fin s t p => (s = 1 ∨ s = -1) ∧ 0 ≤ t ∧ t < 9007199254740992 ∧ (t = 0 → p = 0) ∧ (t ≠ 0 → -1074 ≤ p ∧ bits t + p ≤ 1024 ∧ t % 2 = 1)
  | .inf s => s = 1 ∨ s = -1
  | .nan => True
/-! ### what the text has -/
structure ClsTy (K : PySem.W.Frag) (C : Addr) : Prop where
  ha : PySem.W.findIn K (.ref C) "__class__" = some (some (.builtin "object.__class__"))
  hn : PySem.W.specialIn K (.builtin "object.__class__") "__get__" = some (some (.builtin "getset_descriptor.__get__"))
  htk : PySem.W.takesIn K (.builtin "object.__class__") = some true
  hm : PySem.W.mroIn K C (.type "object") = some true
structure All (K : PySem.W.Frag) (mg : Str → Option Value) (CF : Addr) : Prop where
  b_isinstance : mg "isinstance" = none
  b_int : mg "int" = none
  b_str : mg "str" = none
  b_bool : mg "bool" = none
  b_abs : mg "abs" = none
  b_max : mg "max" = none
  b_min : mg "min" = none
  b_divmod : mg "divmod" = none
  b_len : mg "len" = none
  b_range : mg "range" = none
  c_LEAST : ∃ t, mg "LEAST" = some (.int (-9223372036854775808) t)
  c_MOST : ∃ t, mg "MOST" = some (.int 9223372036854775807 t)
  c_ROOM : ∃ t, mg "ROOM" = some (.int 9007199254740992 t)
  c_LOWEST : ∃ t, mg "LOWEST" = some (.int (-1074) t)
  c_TOO_GREAT : ∃ t, mg "TOO_GREAT" = some (.int 1024 t)
  g_Float : mg "Float" = some (.ref CF)
  l_Float : Cls K CF
  y_Float : ClsTy K CF
  n_sign : NoAttr K CF "sign"
  n_top : NoAttr K CF "top"
  n_power : NoAttr K CF "power"
  i_Fint : PySem.W.kitOne K (.ref CF) (.type "int") = some false
  i_Fbool : PySem.W.kitOne K (.ref CF) (.type "bool") = some false
  i_Fstr : PySem.W.kitOne K (.ref CF) (.type "str") = some false
  i_intF : PySem.W.kitOne K (.type "int") (.ref CF) = some false
  i_boolF : PySem.W.kitOne K (.type "bool") (.ref CF) = some false
  i_strF : PySem.W.kitOne K (.type "str") (.ref CF) = some false
  i_nonF : PySem.W.kitOne K (.type "NoneType") (.ref CF) = some false
  x_init : TxC K mg "Float" CF "Float.__init__" s_Float_init ["self", "sign", "top", "power"]
  x_is_finite : TxM K CF "is_finite" "Float.is_finite" s_Float_is_finite ["self"]
  x_ratio : TxM K CF "ratio" "Float.ratio" s_Float_ratio ["self"]
  x_is_plain : Tx K mg "is_plain" "is_plain" s_is_plain ["number"]
  x_reduced : Tx K mg "reduced" "reduced" s_reduced ["top", "power"]
  x_fits : Tx K mg "fits" "fits" s_fits ["top", "power"]
  x_sign_of : Tx K mg "sign_of" "sign_of" s_sign_of ["is_negative"]
  x_infinity : Tx K mg "infinity" "infinity" s_infinity ["sign"]
  x_nearest : Tx K mg "nearest" "nearest" s_nearest ["sign", "top", "bottom"]
  x_to_float : Tx K mg "to_float" "to_float" s_to_float ["number"]
/-! ### what isinstance says of a value -/
def Says (K : PySem.W.Frag) (CF : Addr) (H : Hp) (x : V) (pl bo st fl : Bool) : Prop :=
  ∃ t, TyX K H x t ∧ PySem.W.kitOne K t (.type "int") = some (pl || bo) ∧ PySem.W.kitOne K t (.type "bool") = some bo ∧ PySem.W.kitOne K t (.type "str") = some st ∧ PySem.W.kitOne K t (.ref CF) = some fl
local macro_rules | `(tactic| walk_at "hp") => `(tactic| first | assumption | (refine same_get ?sm ?_; (case sm => assumption); walk_at "hp"))
local macro_rules | `(tactic| walk_at "rd") => `(tactic| first
  | with_reducible refine w_nx ?_
  | with_reducible refine w_rt ?_
  | with_reducible refine w_bk ?_
  | with_reducible refine w_ct ?_
  | with_reducible refine w_seq ?_
  | with_reducible refine w_next ?_
  | with_reducible refine w_ret ?_
  | with_reducible refine w_ifS ?_
  | with_reducible refine w_asg ?_
  | with_reducible refine w_name ?_
  | with_reducible refine w_par ?_
  | with_reducible refine w_parI ?_
  | with_reducible refine w_ii ?_
  | with_reducible refine w_i1 ?_
  | with_reducible refine w_drop ?_
  | with_reducible refine w_sFld ?_
  | ((with_reducible refine' w_var ?rdh ?_); (case rdh => exact rfl))
  | with_reducible refine w_c ?_
  | with_reducible refine w_op ?_
  | with_reducible refine w_un ?_
  | with_reducible refine w_I0 ?_
  | with_reducible refine w_U ?_
  | with_reducible refine w_bits ?_
  | with_reducible refine w_bitsI ?_
  | with_reducible refine w_tup ?_
  | with_reducible refine w_lst ?_
  | with_reducible refine w_nil ?_
  | with_reducible refine w_cons ?_
  | with_reducible refine w_fld ?_
  | with_reducible refine w_call ?_
  | with_reducible refine w_make ?_
  | with_reducible refine w_makeD ?_
  | with_reducible refine w_nn ?_
  | with_reducible refine w_subB ?_
  | with_reducible refine w_meth ?_
  | with_reducible refine w_cb ?_
  | with_reducible refine w_test ?_
  | with_reducible refine w_B ?_
  | with_reducible refine w_bl ?_
  | with_reducible refine w_andV ?_
  | with_reducible refine w_orV ?_
  | with_reducible refine w_notV ?_
  | with_reducible refine w_and ?_
  | with_reducible refine w_or ?_
  | with_reducible refine w_not ?_
  | with_reducible refine w_if ?_
  | with_reducible refine w_gnil ?_
  | with_reducible refine w_gcons ?_
  | with_reducible refine iT ?_
  | with_reducible refine iF ?_
  | with_reducible refine w_eqI ?_
  | with_reducible refine w_neI ?_
  | with_reducible refine w_eqS ?_
  | with_reducible refine w_eqIS ?_
  | with_reducible refine w_eqSI ?_)

section
variable {P : Program} {w : World} {K : PySem.W.Frag} {mg : Str → Option Value} {base : Heap} {CF : Addr}
theorem says_int (T : All K mg CF) {H : Hp} {i : Int} : Says K CF H (.int i) true false false false :=
  ⟨_, .base (.int i), kit_ty (by decide +kernel), kit_ty (by decide +kernel), kit_ty (by decide +kernel), T.i_intF⟩
theorem says_bl (T : All K mg CF) {H : Hp} {b : Bool} : Says K CF H (.bl b) false true false false :=
  ⟨_, .base (.bl b), kit_ty (by decide +kernel), kit_ty (by decide +kernel), kit_ty (by decide +kernel), T.i_boolF⟩
theorem says_str (T : All K mg CF) {H : Hp} {x : Str} : Says K CF H (.str x) false false true false :=
  ⟨_, .base (.str x), kit_ty (by decide +kernel), kit_ty (by decide +kernel), kit_ty (by decide +kernel), T.i_strF⟩
theorem says_non (T : All K mg CF) {H : Hp} : Says K CF H .non false false false false :=
  ⟨_, .base .non, kit_ty (by decide +kernel), kit_ty (by decide +kernel), kit_ty (by decide +kernel), T.i_nonF⟩
theorem kit_self (K : PySem.W.Frag) (C : Addr) : PySem.W.kitOne K (.ref C) (.ref C) = some true := by
  unfold PySem.W.kitOne
  rw [if_pos (by simp)]
theorem ty_ins {C : Addr} (c : Cls K C) (y : ClsTy K C) {H : Hp} {a dx : Addr} {fs : List (Str × V)} (h : H a = some (.ins C dx fs)) : TyX K H (.ref a) (.ref C) := .base (.ins h c y.ha y.hn y.htk y.hm)
theorem says_fl (T : All K mg CF) {H : Hp} {a dx : Addr} {fs : List (Str × V)} (h : H a = some (.ins CF dx fs)) : Says K CF H (.ref a) false false false true :=
  ⟨_, ty_ins T.l_Float T.y_Float h, T.i_Fint, T.i_Fbool, T.i_Fstr, kit_self K CF⟩
/-! ### is_plain -/
def spPlain (K : PySem.W.Frag) (CF : Addr) : Sp := fun vs H Q _ => ∃ x pl bo st fl, vs = [x] ∧ Says K CF H x pl bo st fl ∧ Q (.bl ((pl || bo) && !bo)) H
theorem sc_is_plain : FnScope ["number"] ["number"] (defScope s_is_plain) := ⟨rfl, rfl, rfl, by decide +kernel, rfl, by decide +kernel, by decide +kernel⟩
theorem ok_is_plain (T : All K mg CF) : Kn P w K mg base CX0 1 "is_plain" ["number"] (spPlain K CF) := by
  refine T.x_is_plain.kn fun f fd F => ?_
  refine F.ok sc_is_plain (fun vs H Q E h => ?_) (fun cdv A outer s H vs Q E hr h => ?_)
  · obtain ⟨x, pl, bo, st, fl, rfl, _⟩ := h
    rfl
  · obtain ⟨x, pl, bo, st, fl, rfl, ⟨t, ty, i1, i2, i3, i4⟩, q⟩ := h
    refine ⟨_, (pss_one (ps_ret (pe_and (pe_callB call_isi (by rfl) T.b_isinstance boot_isinstance (pa_cons (pv 0) (pa_cons (pe_bltn (by rfl) T.b_int boot_int (rty _)) pa_nil))) (pe_one (pe_not (pe_callB call_isi (by rfl) T.b_isinstance boot_isinstance (pa_cons (pv 0) (pa_cons (pe_bltn (by rfl) T.b_bool boot_bool (rty _)) pa_nil)))))))), ?_⟩
    repeat walk_at "rd"
    refine w_isi (.ty "int") ty i1 ?_
    repeat walk_at "rd"
    refine iB (fun e => ?_) (fun e => ?_)
    · repeat walk_at "rd"
      refine w_isi (.ty "bool") ty i2 ?_
      repeat walk_at "rd"
      rw [e] at q
      exact q
    · repeat walk_at "rd"
      rw [e] at q
      exact q
/-! ### reduced -/
def redV : V → Int → V × Int
  | .int t, p => (.int (red t p).1, (red t p).2)
  | v, _ => (v, 0)
def spReduced : Sp := fun vs H Q _ => ∃ tv p, vs = [tv, .int p] ∧ ((∃ t, tv = .int t ∧ 0 ≤ t) ∨ tv = .str "inf" ∨ tv = .str "nan") ∧
  ∀ q H', Same H H' → H' q = some (.tup [(redV tv p).1, .int (redV tv p).2]) → Q (.ref q) H'
theorem sc_reduced : FnScope ["top", "power", "less"] ["top", "power"] (defScope s_reduced) := ⟨rfl, rfl, rfl, by decide +kernel, rfl, by decide +kernel, by decide +kernel⟩
theorem ok_reduced (T : All K mg CF) : Kn P w K mg base CX0 1 "reduced" ["top", "power"] spReduced := by
  refine T.x_reduced.kn fun f fd F => ?_
  refine F.ok sc_reduced (fun vs H Q E h => ?_) (fun cdv A outer s H vs Q E hr h => ?_)
  · obtain ⟨tv, p, rfl, _⟩ := h
    rfl
  · obtain ⟨tv, p, rfl, c, q⟩ := h
    refine ⟨_, (pss_cons (ps_if (PW.pt (pw_or (pt_cmpR op_in_seq (pv 0) (pe_tup (pa_cons pe_str (pa_cons pe_str pa_nil))) rfl) (pw_or1 (pt_cmpR op_eq (pv 0) pe_int (nomark _))))) (pss_one (ps_ret (pe_tup (pa_cons (pv 0) (pa_cons pe_int pa_nil))))) pss_nil)
      (pss_cons (ps_set (i := 2) sc_reduced.nd rfl (Or.inl rfl) (pe_op op_sub (pe_bits (pe_op op_and (pv 0) (pe_op op_sub pe_int (pv 0)))) pe_int))
      (pss_one (ps_ret (pe_tup (pa_cons (pe_op op_shr (pv 0) (pv 2)) (pa_cons (pe_op op_add (pv 1) (pv 2)) pa_nil))))))), ?_⟩
    repeat walk_at "rd"
    refine w_tup2 fun a1 H1 s1 n1 h1 => ?_
    rcases c with ⟨t, rfl, ht⟩ | rfl | rfl
    · refine w_in h1 rfl rfl ?_
      repeat walk_at "rd"
      refine iF ?_
      repeat walk_at "rd"
      refine iD (fun z => ?_) (fun z => ?_)
      · repeat walk_at "rd"
        refine w_tup2 fun a2 H2 s2 n2 h2 => ?_
        repeat walk_at "rd"
        refine q a2 H2 (s1.trans s2) ?_
        subst z
        show H2 a2 = some (.tup [.int (red 0 p).1, .int (red 0 p).2])
        rw [red_zero]
        exact h2
      · repeat walk_at "rd"
        refine w_I (by obtain ⟨k, m, _, _, e⟩ := less_spec (t := t) (by omega); show 0 ≤ less t; omega) ?_
        repeat walk_at "rd"
        refine w_tup2 fun a2 H2 s2 n2 h2 => ?_
        repeat walk_at "rd"
        refine q a2 H2 (s1.trans s2) ?_
        show H2 a2 = some (.tup [.int (red t p).1, .int (red t p).2])
        unfold red
        rw [if_neg z]
        exact h2
    all_goals
      refine w_in h1 rfl rfl ?_
      repeat walk_at "rd"
      refine iT ?_
      repeat walk_at "rd"
      refine w_tup2 fun a2 H2 s2 n2 h2 => ?_
      repeat walk_at "rd"
      exact q a2 H2 (s1.trans s2) h2
/-! ### fits -/
def spFits : Sp := fun vs H Q _ => ∃ t p, vs = [.int t, .int p] ∧ Q (.bl (fitsB t p)) H
theorem sc_fits : FnScope ["top", "power"] ["top", "power"] (defScope s_fits) := ⟨rfl, rfl, rfl, by decide +kernel, rfl, by decide +kernel, by decide +kernel⟩
theorem ok_fits (T : All K mg CF) : Kn P w K mg base CX0 1 "fits" ["top", "power"] spFits := by
  refine T.x_fits.kn fun f fd F => ?_
  refine F.ok sc_fits (fun vs H Q E h => ?_) (fun cdv A outer s H vs Q E hr h => ?_)
  · obtain ⟨t, p, rfl, _⟩ := h
    rfl
  · obtain ⟨t, p, rfl, q⟩ := h
    refine ⟨_, (pss_one (ps_ret (pe_or (pe_and (pe_cmpR op_lt (pv 0) (pgE "ROOM" T.c_ROOM) (nomark _)) (pe_and (pe_cmpR op_ge (pv 1) (pgE "LOWEST" T.c_LOWEST) (nomark _)) (pe_one (pe_cmpR op_le (pe_op op_add (pe_bits (pv 0)) (pv 1)) (pgE "TOO_GREAT" T.c_TOO_GREAT) (nomark _))))) (pe_one (pe_cmpR op_eq (pv 0) pe_int (nomark _)))))), ?_⟩
    unfold fitsB at q
    repeat walk_at "rd"
    refine iD (fun c1 => ?_) (fun c1 => ?_)
    · rw [decide_eq_true c1, Bool.true_and] at q
      repeat walk_at "rd"
      refine iD (fun c2 => ?_) (fun c2 => ?_)
      · rw [decide_eq_true c2, Bool.true_and] at q
        repeat walk_at "rd"
        refine iD (fun c3 => ?_) (fun c3 => ?_)
        · rw [decide_eq_true (show bits t + p ≤ 1024 from c3), Bool.true_or] at q
          repeat walk_at "rd"
          exact q
        · rw [decide_eq_false (show ¬ bits t + p ≤ 1024 from c3), Bool.false_or] at q
          repeat walk_at "rd"
          exact q
      · rw [decide_eq_false c2, Bool.false_and, Bool.false_or] at q
        repeat walk_at "rd"
        exact q
    · rw [decide_eq_false c1, Bool.false_and, Bool.false_or] at q
      repeat walk_at "rd"
      exact q
/-! ### sign_of -/
def spSign : Sp := fun vs H Q _ => ∃ b, vs = [.bl b] ∧ Q (.int (if b = true then -1 else 1)) H
theorem sc_sign_of : FnScope ["is_negative"] ["is_negative"] (defScope s_sign_of) := ⟨rfl, rfl, rfl, by decide +kernel, rfl, by decide +kernel, by decide +kernel⟩
theorem ok_sign_of (T : All K mg CF) : Kn P w K mg base CX0 1 "sign_of" ["is_negative"] spSign := by
  refine T.x_sign_of.kn fun f fd F => ?_
  refine F.ok sc_sign_of (fun vs H Q E h => ?_) (fun cdv A outer s H vs Q E hr h => ?_)
  · obtain ⟨b, rfl, _⟩ := h
    rfl
  · obtain ⟨b, rfl, q⟩ := h
    refine ⟨_, (pss_one (ps_ret (pe_ifExp (pt_val (pv 0)) (pe_un un_neg pe_int) pe_int))), ?_⟩
    repeat walk_at "rd"
    cases b with
    | true =>
      refine iT ?_
      repeat walk_at "rd"
      exact q
    | false =>
      refine iF ?_
      repeat walk_at "rd"
      exact q
/-! ### Float(sign, top, power) -/
/-- the arguments that make the float f -/
def Arg (s : Int) (tv : V) (p : Int) (f : Fl) : Prop :=
  (∃ t, tv = .int t ∧ 0 ≤ t ∧ (s = 1 ∨ s = -1) ∧ fitsB (red t p).1 (red t p).2 = true ∧ f = .fin s (red t p).1 (red t p).2) ∨
  (tv = .str "inf" ∧ p = 0 ∧ (s = 1 ∨ s = -1) ∧ f = .inf s) ∨ (tv = .str "nan" ∧ p = 0 ∧ s = 1 ∧ f = .nan)
theorem Arg.redV {s p : Int} {tv : V} {f : Fl} (a : Arg s tv p f) : f.s = s ∧ f.t = (redV tv p).1 ∧ f.p = (redV tv p).2 := by
  rcases a with ⟨t, rfl, _, _, _, rfl⟩ | ⟨rfl, _, _, rfl⟩ | ⟨rfl, _, rfl, rfl⟩ <;> exact ⟨rfl, rfl, rfl⟩
theorem Arg.ok {s p : Int} {tv : V} {f : Fl} (a : Arg s tv p f) : f.ok := by
  rcases a with ⟨t, rfl, h0, hs, hf, rfl⟩ | ⟨rfl, _, hs, rfl⟩ | ⟨rfl, _, rfl, rfl⟩
  · by_cases z : t = 0
    · subst z
      rw [red_zero]
      exact ⟨hs, by decide, by decide, fun _ => rfl, fun h => absurd rfl h⟩
    · obtain ⟨k, m, hm, e, r⟩ := red_spec (t := t) (by omega) p
      rw [r] at hf ⊢
      unfold fitsB at hf
      have z2 : ¬ 2 * m + 1 = 0 := by omega
      rw [decide_eq_false z2, Bool.or_false, Bool.and_eq_true, Bool.and_eq_true, decide_eq_true_eq, decide_eq_true_eq, decide_eq_true_eq] at hf
      exact ⟨hs, by omega, hf.1, fun h => absurd h z2, fun _ => ⟨hf.2.1, hf.2.2, by omega⟩⟩
  · exact hs
  · exact trivial
def spInit (C : Addr) : Sp := fun vs H Q _ => ∃ x dx s tv p f, vs = [.ref x, .int s, tv, .int p] ∧ H x = some (.ins C dx []) ∧ Arg s tv p f ∧
  ∀ H', (∀ b o, b ≠ x → H b = some o → H' b = some o) → H' x = some (.ins C dx (flds f.s f.t f.p)) → Q .non H'
theorem u_plain_int (T : All K mg CF) {i : Int} {H : Hp} {Q : VK} {E : XK} (q : Q (.bl true) H) : spPlain K CF ([V.int i] ++ []) H Q E :=
  ⟨.int i, true, false, false, false, rfl, says_int T, q⟩
theorem u_reduced {tv : V} {p : Int} {H : Hp} {Q : VK} {E : XK} (c : (∃ t, tv = .int t ∧ 0 ≤ t) ∨ tv = .str "inf" ∨ tv = .str "nan") (q : ∀ a H', Same H H' → H' a = some (.tup [(redV tv p).1, .int (redV tv p).2]) → Q (.ref a) H') :
    spReduced ([tv, V.int p] ++ []) H Q E := ⟨tv, p, rfl, c, q⟩
theorem u_fits {t p : Int} {H : Hp} {Q : VK} {E : XK} (q : Q (.bl (fitsB t p)) H) : spFits ([V.int t, V.int p] ++ []) H Q E := ⟨t, p, rfl, q⟩
theorem w_gFld {to : TE} {f : Str} {v : V} {σ : L2.St} {H : Hp} {Q : L2.St → Hp → Prop} (h : to σ H fun x H1 => ∃ a C dx fs, x = .ref a ∧ H1 a = some (.ins C dx fs) ∧ Cls K C ∧ NoAttr K C f ∧ fs.length < 1000 ∧ Q σ (upd H1 a (.ins C dx (putF f v fs)))) : gFld K to f v σ H Q := h
theorem putF_s (s : Int) : putF "sign" (.int s) [] = [(("sign" : Str), V.int s)] := rfl
theorem len_put (f : Str) (v : V) (fs : List (Str × V)) {n : Nat} (h : fs.length < n) (hn : n < 1000) : (putF f v fs).length < 1000 := by
  have := length_putF f v fs
  omega
theorem lenf (s : Int) (t : V) (p : Int) : (flds s t p).length < 1000 := by
  unfold flds
  have a := length_putF "power" (.int p) (putF "top" t (putF "sign" (.int s) []))
  have b := length_putF "top" t (putF "sign" (.int s) [])
  have c := length_putF "sign" (.int s) []
  simp at c
  omega
theorem sc_Float_init : FnScope ["self", "sign", "top", "power"] ["self", "sign", "top", "power"] (defScope s_Float_init) := ⟨rfl, rfl, rfl, by decide +kernel, rfl, by decide +kernel, by decide +kernel⟩
theorem ok_init (T : All K mg CF) (k_is_plain : Kn P w K mg base CX0 1 "is_plain" ["number"] (spPlain K CF)) (k_reduced : Kn P w K mg base CX0 1 "reduced" ["top", "power"] spReduced) (k_fits : Kn P w K mg base CX0 1 "fits" ["top", "power"] spFits) :
    KnC P w K mg base CX0 2 "Float" CF ["self", "sign", "top", "power"] (spInit CF) := by
  refine T.x_init.kn fun f fd F => ?_
  refine F.ok sc_Float_init (fun vs H Q E h => ?_) (fun cdv A outer s H vs Q E hr h => ?_)
  · obtain ⟨x, dx, s, tv, p, f, rfl, _⟩ := h
    rfl
  · obtain ⟨x, dx, s, tv, p, f, rfl, hx, a, q⟩ := h
    refine ⟨_, (pss_cons (ps_if (PW.pt (pw_or (pt_not (pt_val (pk k_is_plain hr (pa_cons (pv 1) pa_nil)))) (pw_or1 (pt_cmpR op_notIn_seq (pv 1) (pe_tup (pa_cons pe_int (pa_cons (pe_un un_neg pe_int) pa_nil))) rfl)))) (pss_one ps_never) pss_nil)
      (C8.pss_cut (ps_if (PW.pt (pw_and (pt_val (pe_callB call_isi (by rfl) T.b_isinstance boot_isinstance (pa_cons (pv 2) (pa_cons (pe_bltn (by rfl) T.b_str boot_str (rty _)) pa_nil)))) (pw_and1 (pt_cmpR op_in_seq (pv 2) (pe_tup (pa_cons pe_str (pa_cons pe_str pa_nil))) rfl)))) (pss_cons (ps_if (PW.pt (pw_and (pt_cmpR op_eq (pv 2) pe_str (nomark _)) (pw_and1 (pt_cmpR op_eq (pv 1) (pe_un un_neg pe_int) (nomark _))))) (pss_one ps_never) pss_nil)
      (pss_one (ps_if (PW.pt (pw_or (pt_not (pt_val (pk k_is_plain hr (pa_cons (pv 3) pa_nil)))) (pw_or1 (pt_cmpR op_ne (pv 3) pe_int (nomark _))))) (pss_one ps_never) pss_nil))) (pss_one (ps_if (PW.pt (pw_or (pt_not (pt_val (pk k_is_plain hr (pa_cons (pv 2) pa_nil)))) (pw_or1 (pt_cmpR op_lt (pv 2) pe_int (nomark _))))) (pss_one ps_never) (pss_one (ps_if (pt_not (pt_val (pk k_is_plain hr (pa_cons (pv 3) pa_nil)))) (pss_one ps_never) pss_nil)))))
      (pss_cons (ps_fld (pv 0) (pv 1) rfl)
      (pss_cons (ps_asg (pk k_reduced hr (pa_cons (pv 2) (pa_cons (pv 3) pa_nil))) (pg_tup (by rfl) (pgs_cons (pg_fld (pv 0)) (pgs_cons (pg_fld (pv 0)) pgs_nil))))
      (pss_one (ps_if (PW.pt (pw_and (pt_cmpR op_notIn_seq (pe_fld (pv 0) rfl) (pe_tup (pa_cons pe_str (pa_cons pe_str pa_nil))) rfl) (pw_and1 (pt_not (pt_val (pk k_fits hr (pa_cons (pe_fld (pv 0) rfl) (pa_cons (pe_fld (pv 0) rfl) pa_nil)))))))) (pss_one ps_never) pss_nil)))))), ?_⟩
    have hs : s = 1 ∨ s = -1 := by rcases a with ⟨t, _, _, h, _, _⟩ | ⟨_, _, h, _⟩ | ⟨_, _, h, _⟩ <;> first | exact h | exact .inl h
    repeat walk_at "rd"
    refine u_plain_int T ?_
    repeat walk_at "rd"
    refine iF ?_
    repeat walk_at "rd"
    refine w_tup2 fun a1 H1 s1 n1 h1 => ?_
    refine w_nin h1 rfl rfl ?_
    repeat walk_at "rd"
    have e1 : (!inV (V.int s) [V.int 1, V.int (-1)]) = false := by rcases hs with rfl | rfl <;> rfl
    rw [e1]
    refine iF ?_
    repeat walk_at "rd"
    refine w_cut (Mid := fun σ' H' => σ' = start ["self", "sign", "top", "power"] [.ref x, .int s, tv, .int p] ∧ Same H H') ?_ ?_
    · repeat walk_at "rd"
      rcases a with ⟨t, rfl, h0, _, hf, rfl⟩ | ⟨rfl, rfl, _, rfl⟩ | ⟨rfl, rfl, rfl, rfl⟩
      · refine w_isi (.ty "str") (.base (.int t)) (kit_ty (b := "str") (r := false) (by decide +kernel)) ?_
        repeat walk_at "rd"
        refine u_plain_int T ?_
        repeat walk_at "rd"
        refine iF ?_
        repeat walk_at "rd"
        refine iD (fun z => by omega) (fun _ => ?_)
        repeat walk_at "rd"
        refine u_plain_int T ?_
        repeat walk_at "rd"
        refine iF ?_
        repeat walk_at "rd"
        exact ⟨rfl, s1⟩
      · refine w_isi (.ty "str") (.base (.str _)) (kit_ty (b := "str") (r := true) (by decide +kernel)) ?_
        repeat walk_at "rd"
        refine w_tup2 fun a2 H2 s2 n2 h2 => ?_
        refine w_in h2 rfl rfl ?_
        repeat walk_at "rd"
        refine iT ?_
        repeat walk_at "rd"
        refine iD (fun z => absurd z (by decide +kernel)) (fun _ => ?_)
        repeat walk_at "rd"
        refine u_plain_int T ?_
        repeat walk_at "rd"
        refine iF ?_
        repeat walk_at "rd"
        refine iN (fun z => absurd rfl z) (fun _ => ?_)
        repeat walk_at "rd"
        exact ⟨rfl, s1.trans s2⟩
      · refine w_isi (.ty "str") (.base (.str _)) (kit_ty (b := "str") (r := true) (by decide +kernel)) ?_
        repeat walk_at "rd"
        refine w_tup2 fun a2 H2 s2 n2 h2 => ?_
        refine w_in h2 rfl rfl ?_
        repeat walk_at "rd"
        refine iT ?_
        repeat walk_at "rd"
        refine iD (fun _ => ?_) (fun z => absurd rfl z)
        repeat walk_at "rd"
        refine iD (fun z => absurd z (by decide)) (fun _ => ?_)
        repeat walk_at "rd"
        refine u_plain_int T ?_
        repeat walk_at "rd"
        refine iF ?_
        repeat walk_at "rd"
        refine iN (fun z => absurd rfl z) (fun _ => ?_)
        repeat walk_at "rd"
        exact ⟨rfl, s1.trans s2⟩
    · rintro σ' H3 ⟨rfl, s3⟩
      obtain ⟨e1, e2, e3⟩ := a.redV
      have hx3 := s3 _ _ hx
      repeat walk_at "rd"
      refine w_sfI hx3 T.l_Float T.n_sign (by decide) ?_
      repeat walk_at "rd"
      refine u_reduced (by rcases a with ⟨t, rfl, h0, _⟩ | ⟨rfl, _⟩ | ⟨rfl, _⟩ <;> first | exact .inl ⟨_, rfl, h0⟩ | exact .inr (.inl rfl) | exact .inr (.inr rfl)) fun a4 H4 s4 h4 => ?_
      have hx4 : H4 x = some (.ins CF dx (putF "sign" (.int s) [])) := s4 _ _ upd_same
      refine w_gtup h4 rfl ?_
      repeat walk_at "rd"
      refine w_gFld ?_
      repeat walk_at "rd"
      refine w_sfI hx4 T.l_Float T.n_top (by show 1 < 1000; decide) ?_
      repeat walk_at "rd"
      refine w_gFld ?_
      repeat walk_at "rd"
      refine w_sfI upd_same T.l_Float T.n_power (len_put _ _ _ (n := 2) (by show 1 < 2; decide) (by decide)) ?_
      repeat walk_at "rd"
      rw [upd_upd]
      have ef : (putF "power" (.int (redV tv p).2) (putF "top" (redV tv p).1 (putF "sign" (.int s) []))) = flds f.s f.t f.p := by rw [e1, e2, e3]; rfl
      rw [ef]
      generalize eH5 : upd H4 x (.ins CF dx (flds f.s f.t f.p)) = H5
      have hx5 : H5 x = some (.ins CF dx (flds f.s f.t f.p)) := by rw [← eH5]; exact upd_same
      have k5 : ∀ b o, b ≠ x → H b = some o → H5 b = some o := fun b o hb e => by
        rw [← eH5, upd_ne hb]
        exact s4 _ _ (by rw [upd_ne hb]; exact s3 _ _ e)
      refine w_fldI hx5 T.l_Float T.n_top (flds_t _ _ _) ?_
      repeat walk_at "rd"
      refine w_tup2 fun a6 H6 s6 n6 h6 => ?_
      have hx6 := s6 _ _ hx5
      have k6 : ∀ b o, b ≠ x → H b = some o → H6 b = some o := fun b o hb e => s6 _ _ (k5 b o hb e)
      rcases a with ⟨t, rfl, h0, _, hf, rfl⟩ | ⟨rfl, rfl, _, rfl⟩ | ⟨rfl, rfl, rfl, rfl⟩
      · refine w_nin h6 rfl rfl ?_
        repeat walk_at "rd"
        refine iT ?_
        repeat walk_at "rd"
        refine w_fldI hx6 T.l_Float T.n_top (flds_t _ _ _) ?_
        repeat walk_at "rd"
        refine w_fldI hx6 T.l_Float T.n_power (flds_p _ _ _) ?_
        repeat walk_at "rd"
        refine u_fits ?_
        repeat walk_at "rd"
        show if (!fitsB (red t p).1 (red t p).2) = true then _ else _
        rw [hf]
        refine iF ?_
        repeat walk_at "rd"
        exact q H6 k6 hx6
      all_goals
        refine w_nin h6 rfl rfl ?_
        repeat walk_at "rd"
        refine iF ?_
        refine iF ?_
        repeat walk_at "rd"
        exact q H6 k6 hx6
/-- Float(s, tv, p) makes f -/
theorem u_Float {s p : Int} {tv : V} {f : Fl} {H : Hp} {Q : VK} {E : XK} (a : Arg s tv p f) (q : ∀ x H', Same H H' → H x = none → FlAt CF H' x f → Q (.ref x) H') : MakeK CF (spInit CF) [.int s, tv, .int p] H Q E := by
  intro x dx hx hdx ne
  refine ⟨x, dx, s, tv, p, f, rfl, upd_same, a, fun H' k hx' => ⟨rfl, q x H' (fun b o e => k b o (ne_of_none e hx) ?_) hx ⟨dx, hx'⟩⟩⟩
  rw [upd_ne (ne_of_none e hx), upd_ne (ne_of_none e hdx)]
  exact e
end
end Nu

set_option Elab.async false
set_option linter.all false
set_option maxRecDepth 100000
set_option autoImplicit false
set_option maxHeartbeats 4000000
namespace Nu
open PySem PySem.Spec PyProof.Rows L2 Rd
local macro_rules | `(tactic| walk_at "hp") => `(tactic| first | assumption | (refine same_get ?sm ?_; (case sm => assumption); walk_at "hp"))
local macro_rules | `(tactic| walk_at "rd") => `(tactic| first
  | with_reducible refine w_nx ?_
  | with_reducible refine w_rt ?_
  | with_reducible refine w_bk ?_
  | with_reducible refine w_ct ?_
  | with_reducible refine w_seq ?_
  | with_reducible refine w_next ?_
  | with_reducible refine w_ret ?_
  | with_reducible refine w_ifS ?_
  | with_reducible refine w_asg ?_
  | with_reducible refine w_name ?_
  | with_reducible refine w_par ?_
  | with_reducible refine w_parI ?_
  | with_reducible refine w_ii ?_
  | with_reducible refine w_i1 ?_
  | with_reducible refine w_drop ?_
  | with_reducible refine w_sFld ?_
  | ((with_reducible refine' w_var ?rdh ?_); (case rdh => exact rfl))
  | with_reducible refine w_c ?_
  | with_reducible refine w_op ?_
  | with_reducible refine w_un ?_
  | with_reducible refine w_I0 ?_
  | with_reducible refine w_U ?_
  | with_reducible refine w_bits ?_
  | with_reducible refine w_bitsI ?_
  | with_reducible refine w_tup ?_
  | with_reducible refine w_lst ?_
  | with_reducible refine w_nil ?_
  | with_reducible refine w_cons ?_
  | with_reducible refine w_fld ?_
  | with_reducible refine w_call ?_
  | with_reducible refine w_make ?_
  | with_reducible refine w_makeD ?_
  | with_reducible refine w_nn ?_
  | with_reducible refine w_subB ?_
  | with_reducible refine w_meth ?_
  | with_reducible refine w_cb ?_
  | with_reducible refine w_test ?_
  | with_reducible refine w_B ?_
  | with_reducible refine w_bl ?_
  | with_reducible refine w_andV ?_
  | with_reducible refine w_orV ?_
  | with_reducible refine w_notV ?_
  | with_reducible refine w_and ?_
  | with_reducible refine w_or ?_
  | with_reducible refine w_not ?_
  | with_reducible refine w_if ?_
  | with_reducible refine w_gnil ?_
  | with_reducible refine w_gcons ?_
  | with_reducible refine iT ?_
  | with_reducible refine iF ?_
  | with_reducible refine w_eqI ?_
  | with_reducible refine w_neI ?_
  | with_reducible refine w_eqS ?_
  | with_reducible refine w_eqIS ?_
  | with_reducible refine w_eqSI ?_)

section
variable {P : Program} {w : World} {K : PySem.W.Frag} {mg : Str → Option Value} {base : Heap} {CF : Addr}
/-- a new float -/
def NewF (CF : Addr) (f : Fl) (H : Hp) (Q : VK) : Prop := ∀ x H', Same H H' → H x = none → FlAt CF H' x f → Q (.ref x) H'
/-! ### infinity -/
def spInf (CF : Addr) : Sp := fun vs H Q _ => ∃ s, vs = [.int s] ∧ (s = 1 ∨ s = -1) ∧ NewF CF (.inf s) H Q
theorem sc_infinity : FnScope ["sign"] ["sign"] (defScope s_infinity) := ⟨rfl, rfl, rfl, by decide +kernel, rfl, by decide +kernel, by decide +kernel⟩
theorem ok_infinity (T : All K mg CF) (k_Float_init : KnC P w K mg base CX0 2 "Float" CF ["self", "sign", "top", "power"] (spInit CF)) : Kn P w K mg base CX0 4 "infinity" ["sign"] (spInf CF) := by
  refine T.x_infinity.kn fun f fd F => ?_
  refine F.ok sc_infinity (fun vs H Q E h => ?_) (fun cdv A outer s H vs Q E hr h => ?_)
  · obtain ⟨s, rfl, _⟩ := h
    rfl
  · obtain ⟨s, rfl, hs, q⟩ := h
    refine ⟨_, (pss_one (ps_ret (pkC k_Float_init hr (pa_cons (pv 0) (pa_cons pe_str (pa_cons pe_int pa_nil)))))), ?_⟩
    repeat walk_at "rd"
    refine u_Float (.inr (.inl ⟨rfl, rfl, hs, rfl⟩)) fun x H' s1 n1 h1 => ?_
    exact q x H' s1 n1 h1
/-! ### nearest -/
def nearM (s t b : Int) : Fl := if t = 0 then .fin s 0 0 else if 1024 < bits (wh t b) + p2 t b then .inf s else .fin s (red (wh t b) (p2 t b)).1 (red (wh t b) (p2 t b)).2
def spNear (CF : Addr) : Sp := fun vs H Q _ => ∃ s t b, vs = [.int s, .int t, .int b] ∧ (s = 1 ∨ s = -1) ∧ 0 ≤ t ∧ 0 < b ∧ bits t ≤ 2200 ∧ bits b ≤ 2200 ∧ NewF CF (nearM s t b) H Q
theorem cshl {i j : Int} (h : bits i ≤ 10000) (h0 : 0 ≤ j) (h1 : j ≤ 10000) : CShl i j := by
  refine ⟨h0, ?_⟩
  have e : (2 : Int) ^ 27 = 134217728 := by decide
  rw [e]
  have : bits i = (Builtin.Int.intBits i : Nat) := rfl
  omega
theorem cdivw {i j : Int} (h : 0 < j) (hb : bits j ≤ 8000) : CDivW i j := by
  have := (bits_le (n := j) (k := 8000)).1 (by omega)
  exact wide_div h this (by decide) (by decide)
theorem cdivp {i j : Int} (h : 0 < j) (hb : bits i ≤ 4000) : CDivP i j := by
  refine divp_ok h ?_
  have : bits i = (Builtin.Int.intBits i : Nat) := rfl
  omega
theorem cmulx {i j : Int} (h : bits i ≤ 100000) (hb : bits j ≤ 100000) : CMulX i j := by
  unfold CMulX
  have : bits i = (Builtin.Int.intBits i : Nat) := rfl
  have : bits j = (Builtin.Int.intBits j : Nat) := rfl
  omega
theorem sc_nearest : FnScope ["sign", "top", "bottom", "power", "whole", "rest"] ["sign", "top", "bottom"] (defScope s_nearest) := ⟨rfl, rfl, rfl, by decide +kernel, rfl, by decide +kernel, by decide +kernel⟩
theorem ok_nearest (T : All K mg CF) (k_Float_init : KnC P w K mg base CX0 2 "Float" CF ["self", "sign", "top", "power"] (spInit CF)) (k_infinity : Kn P w K mg base CX0 4 "infinity" ["sign"] (spInf CF)) :
    Kn P w K mg base CX0 5 "nearest" ["sign", "top", "bottom"] (spNear CF) := by
  refine T.x_nearest.kn fun f fd F => ?_
  refine F.ok sc_nearest (fun vs H Q E h => ?_) (fun cdv A outer s H vs Q E hr h => ?_)
  · obtain ⟨s, t, b, rfl, _⟩ := h
    rfl
  · obtain ⟨s, t, b, rfl, hs, ht, hb, bt, bb, q⟩ := h
    refine ⟨_, (pss_cons (ps_if (pt_cmpR op_eq (pv 1) pe_int (nomark _)) (pss_one (ps_ret (pkC k_Float_init hr (pa_cons (pv 0) (pa_cons pe_int (pa_cons pe_int pa_nil)))))) pss_nil)
      (pss_cons (ps_set (i := 3) sc_nearest.nd rfl (Or.inl rfl) (pe_callB (call_max2 rfl) (by rfl) T.b_max boot_max (pa_cons (pe_op op_sub (pe_op op_sub (pe_bits (pv 1)) (pe_bits (pv 2))) pe_int) (pa_cons (pgE "LOWEST" T.c_LOWEST) pa_nil))))
      (C8.pss_cut (ps_if (pt_cmpR op_lt (pv 3) pe_int (nomark _)) (pss_one (ps_set (i := 1) sc_nearest.nd rfl (Or.inl rfl) (pe_op op_shlW (pv 1) (pe_op op_sub pe_int (pv 3))))) (pss_one (ps_set (i := 2) sc_nearest.nd rfl (Or.inl rfl) (pe_op op_shlW (pv 2) (pv 3)))))
      (C8.pss_cut (ps_if (pt_cmpR op_ge (pe_op op_fdivW (pv 1) (pv 2)) (pgE "ROOM" T.c_ROOM) (nomark _)) (pss_cons (ps_set (i := 2) sc_nearest.nd rfl (Or.inl rfl) (pe_op op_shlW (pv 2) pe_int))
      (pss_one (ps_set (i := 3) sc_nearest.nd rfl (Or.inl rfl) (pe_op op_add (pv 3) pe_int)))) pss_nil)
      (pss_cons (ps_asg (pe_callB call_divmodW (by rfl) T.b_divmod boot_divmod (pa_cons (pv 1) (pa_cons (pv 2) pa_nil))) (pg_tup (by rfl) (pgs_cons (pg_name (i := 4) sc_nearest.nd rfl (Or.inl rfl)) (pgs_cons (pg_name (i := 5) sc_nearest.nd rfl (Or.inl rfl)) pgs_nil))))
      (C8.pss_cut (ps_if (PW.pt (pw_or (pt_cmpR op_gt (pe_op op_mulX pe_int (pv 5)) (pv 2) (nomark _)) (pw_or1 (PW.pt (pw_and (pt_cmpR op_eq (pe_op op_mulX pe_int (pv 5)) (pv 2) (nomark _)) (pw_and1 (pt_cmpR op_eq (pe_op op_and (pv 4) pe_int) pe_int (nomark _)))))))) (pss_one (ps_set (i := 4) sc_nearest.nd rfl (Or.inl rfl) (pe_op op_add (pv 4) pe_int))) pss_nil)
      (pss_cons (ps_if (pt_cmpR op_gt (pe_op op_add (pe_bits (pv 4)) (pv 3)) (pgE "TOO_GREAT" T.c_TOO_GREAT) (nomark _)) (pss_one (ps_ret (pk k_infinity hr (pa_cons (pv 0) pa_nil)))) pss_nil)
      (pss_one (ps_ret (pkC k_Float_init hr (pa_cons (pv 0) (pa_cons (pv 4) (pa_cons (pv 3) pa_nil))))))))))))), ?_⟩
    repeat walk_at "rd"
    refine iD (fun z => ?_) (fun z => ?_)
    · repeat walk_at "rd"
      subst z
      refine u_Float (.inl ⟨0, rfl, by decide, hs, by rw [red_zero]; decide, rfl⟩) fun x H' s1 n1 h1 => ?_
      refine q x H' s1 n1 ?_
      unfold nearM
      rw [if_pos rfl]
      rw [red_zero] at h1
      exact h1
    · repeat walk_at "rd"
      rw [show (if (-1074 : Int) > ((Builtin.Int.intBits t : Nat) : Int) - ((Builtin.Int.intBits b : Nat) : Int) - 53 then (-1074 : Int) else ((Builtin.Int.intBits t : Nat) : Int) - ((Builtin.Int.intBits b : Nat) : Int) - 53) = pw t b from rfl]
      have g1 := pw_ge (t := t) (b := b)
      have g2 := pw_le (t := t) (b := b) bt
      repeat walk_at "rd"
      refine w_cut (Mid := fun σ' H' => σ' = [some (.int s), some (.int (t1 t b)), some (.int (b1 t b)), some (.int (pw t b)), none, none] ∧ H' = H) ?_ ?_
      · repeat walk_at "rd"
        refine iD (fun c => ?_) (fun c => ?_)
        · repeat walk_at "rd"
          refine w_I (cshl (by omega) (by omega) (by omega)) ?_
          repeat walk_at "rd"
          refine ⟨?_, rfl⟩
          unfold t1 b1
          rw [if_pos c, if_pos c]
          rfl
        · repeat walk_at "rd"
          refine w_I (cshl (by omega) (by omega) (by omega)) ?_
          repeat walk_at "rd"
          refine ⟨?_, rfl⟩
          unfold t1 b1
          rw [if_neg c, if_neg c]
          rfl
      rintro σ' H' ⟨rfl, rfl⟩
      have h1 := b1_pos (t := t) hb
      have h2 := b2_pos (t := t) hb
      have h3 := b1_bits hb bt bb
      have h4 := b2_bits hb bt bb
      have h5 := t1_bits (b := b) ht bt
      refine w_cut (Mid := fun σ' H'' => σ' = [some (.int s), some (.int (t1 t b)), some (.int (b2 t b)), some (.int (p2 t b)), none, none] ∧ H'' = H') ?_ ?_
      · repeat walk_at "rd"
        refine w_I (cdivw h1 (by omega)) ?_
        repeat walk_at "rd"
        refine iD (fun c => ?_) (fun c => ?_)
        · repeat walk_at "rd"
          refine w_I (cshl (by omega) (by omega) (by omega)) ?_
          repeat walk_at "rd"
          refine ⟨?_, rfl⟩
          unfold b2 p2
          rw [if_pos c, if_pos c]
          rfl
        · repeat walk_at "rd"
          refine ⟨?_, rfl⟩
          unfold b2 p2
          rw [if_neg c, if_neg c]
      rintro σ' H'' ⟨rfl, rfl⟩
      repeat walk_at "rd"
      refine ⟨cdivp h2 (by omega), fun a1 n1 => ?_⟩
      have s1 := same_upd (o := .tup [.int (t1 t b / b2 t b), .int (t1 t b % b2 t b)]) n1
      have e1 := upd_same (H := H'') (a := a1) (o := .tup [.int (t1 t b / b2 t b), .int (t1 t b % b2 t b)])
      generalize upd H'' a1 (.tup [.int (t1 t b / b2 t b), .int (t1 t b % b2 t b)]) = H1 at s1 e1 ⊢
      refine w_gtup e1 rfl ?_
      repeat walk_at "rd"
      rw [show t1 t b / b2 t b = wq t b from rfl, show t1 t b % b2 t b = wr t b from rfl]
      have r0 := wr_nn (t := t) hb
      have r1 := wr_lt (t := t) hb
      have rb : bits (wr t b) ≤ 4401 := Int.le_trans (bits_mono r0 (Int.le_of_lt r1)) h4
      refine w_cut (Mid := fun σ' H'' => σ' = [some (.int s), some (.int (t1 t b)), some (.int (b2 t b)), some (.int (p2 t b)), some (.int (wh t b)), some (.int (wr t b))] ∧ H'' = H1) ?_ ?_
      · have up : goesUp t b → wh t b = wq t b + 1 := fun c => if_pos c
        have dn : ¬ goesUp t b → wh t b = wq t b := fun c => if_neg c
        repeat walk_at "rd"
        refine w_I (cmulx (by decide) (by omega)) ?_
        repeat walk_at "rd"
        refine iD (fun c => ?_) (fun c => ?_)
        · refine iT ?_
          repeat walk_at "rd"
          refine ⟨?_, rfl⟩
          rw [up (.inl c)]
          rfl
        · repeat walk_at "rd"
          refine w_I (cmulx (by decide) (by omega)) ?_
          repeat walk_at "rd"
          refine iD (fun c2 => ?_) (fun c2 => ?_)
          · repeat walk_at "rd"
            refine iD (fun c3 => ?_) (fun c3 => ?_)
            · repeat walk_at "rd"
              refine ⟨?_, rfl⟩
              rw [up (.inr ⟨c2, c3⟩)]
              rfl
            · repeat walk_at "rd"
              refine ⟨?_, rfl⟩
              rw [dn (fun h => h.elim c fun h => c3 h.2)]
              rfl
          · repeat walk_at "rd"
            refine ⟨?_, rfl⟩
            rw [dn (fun h => h.elim c fun h => c2 h.1)]
            rfl
      rintro σ' H3 ⟨rfl, rfl⟩
      repeat walk_at "rd"
      refine iD (fun c => ?_) (fun c => ?_)
      · repeat walk_at "rd"
        refine ⟨s, rfl, hs, fun x H' s2 n2 h2 => ?_⟩
        refine q x H' (s1.trans s2) (s1.free n2) ?_
        unfold nearM
        rw [if_neg z, if_pos c]
        exact h2
      · repeat walk_at "rd"
        refine u_Float (.inl ⟨wh t b, rfl, wh_nn ht hb, hs, wh_fits ht hb (Int.not_lt.mp c), rfl⟩) fun x H' s2 n2 h2 => ?_
        refine q x H' (s1.trans s2) (s1.free n2) ?_
        unfold nearM
        rw [if_neg z, if_neg c]
        exact h2
end
end Nu

set_option Elab.async false
set_option linter.all false
set_option maxRecDepth 100000
set_option autoImplicit false
set_option maxHeartbeats 4000000
namespace Nu
open PySem PySem.Spec PyProof.Rows L2 Rd
local macro_rules | `(tactic| walk_at "hp") => `(tactic| first | assumption | (refine same_get ?sm ?_; (case sm => assumption); walk_at "hp"))
local macro_rules | `(tactic| walk_at "rd") => `(tactic| first
  | with_reducible refine w_nx ?_
  | with_reducible refine w_rt ?_
  | with_reducible refine w_bk ?_
  | with_reducible refine w_ct ?_
  | with_reducible refine w_seq ?_
  | with_reducible refine w_next ?_
  | with_reducible refine w_ret ?_
  | with_reducible refine w_ifS ?_
  | with_reducible refine w_asg ?_
  | with_reducible refine w_name ?_
  | with_reducible refine w_par ?_
  | with_reducible refine w_parI ?_
  | with_reducible refine w_ii ?_
  | with_reducible refine w_i1 ?_
  | with_reducible refine w_drop ?_
  | with_reducible refine w_sFld ?_
  | ((with_reducible refine' w_var ?rdh ?_); (case rdh => exact rfl))
  | with_reducible refine w_c ?_
  | with_reducible refine w_op ?_
  | with_reducible refine w_un ?_
  | with_reducible refine w_I0 ?_
  | with_reducible refine w_U ?_
  | with_reducible refine w_bits ?_
  | with_reducible refine w_bitsI ?_
  | with_reducible refine w_tup ?_
  | with_reducible refine w_lst ?_
  | with_reducible refine w_nil ?_
  | with_reducible refine w_cons ?_
  | with_reducible refine w_fld ?_
  | with_reducible refine w_call ?_
  | with_reducible refine w_make ?_
  | with_reducible refine w_makeD ?_
  | with_reducible refine w_nn ?_
  | with_reducible refine w_subB ?_
  | with_reducible refine w_meth ?_
  | with_reducible refine w_cb ?_
  | with_reducible refine w_test ?_
  | with_reducible refine w_B ?_
  | with_reducible refine w_bl ?_
  | with_reducible refine w_andV ?_
  | with_reducible refine w_orV ?_
  | with_reducible refine w_notV ?_
  | with_reducible refine w_and ?_
  | with_reducible refine w_or ?_
  | with_reducible refine w_not ?_
  | with_reducible refine w_if ?_
  | with_reducible refine w_gnil ?_
  | with_reducible refine w_gcons ?_
  | with_reducible refine iT ?_
  | with_reducible refine iF ?_
  | with_reducible refine w_eqI ?_
  | with_reducible refine w_neI ?_
  | with_reducible refine w_eqS ?_
  | with_reducible refine w_eqIS ?_
  | with_reducible refine w_eqSI ?_)

section
variable {P : Program} {w : World} {K : PySem.W.Frag} {mg : Str → Option Value} {base : Heap} {CF : Addr}
/-! ### is_finite, ratio -/
def Fl.isFin : Fl → Bool
  | .fin _ _ _ => true
  | _ => false
theorem Fl.ty (f : Fl) (K : PySem.W.Frag) (H : Hp) : ∃ t, TyX K H f.t t ∧ PySem.W.kitOne K t (.type "int") = some f.isFin := by
  cases f with
  | fin s t p => exact ⟨_, .base (.int t), kit_ty (r := true) (by decide +kernel)⟩
  | inf s => exact ⟨_, .base (.str _), kit_ty (r := false) (by decide +kernel)⟩
  | nan => exact ⟨_, .base (.str _), kit_ty (r := false) (by decide +kernel)⟩
def spFinite (CF : Addr) : Sp := fun vs H Q _ => ∃ a f, vs = [.ref a] ∧ FlAt CF H a f ∧ Q (.bl f.isFin) H
theorem sc_Float_is_finite : FnScope ["self"] ["self"] (defScope s_Float_is_finite) := ⟨rfl, rfl, rfl, by decide +kernel, rfl, by decide +kernel, by decide +kernel⟩
theorem ok_is_finite (T : All K mg CF) : KnM P w K mg base CX0 1 CF "is_finite" ["self"] (spFinite CF) := by
  refine T.x_is_finite.kn fun f fd F => ?_
  refine F.ok sc_Float_is_finite (fun vs H Q E h => ?_) (fun cdv A outer s H vs Q E hr h => ?_)
  · obtain ⟨a, f, rfl, _⟩ := h
    rfl
  · obtain ⟨a, f, rfl, ⟨dx, h1⟩, q⟩ := h
    refine ⟨_, (pss_one (ps_ret (pe_callB call_isi (by rfl) T.b_isinstance boot_isinstance (pa_cons (pe_fld (pv 0) rfl) (pa_cons (pe_bltn (by rfl) T.b_int boot_int (rty _)) pa_nil))))), ?_⟩
    repeat walk_at "rd"
    refine w_fldI h1 T.l_Float T.n_top (flds_t _ _ _) ?_
    repeat walk_at "rd"
    obtain ⟨t, ty, k⟩ := f.ty K H
    refine w_isi (.ty "int") ty k ?_
    repeat walk_at "rd"
    exact q
/-- top and bottom of a finite float -/
def ratT (s t p : Int) : Int := if p < 0 then s * t else s * (t * 2 ^ p.toNat)
def ratB (p : Int) : Int := if p < 0 then 2 ^ (0 - p).toNat else 1
def spRatio (CF : Addr) : Sp := fun vs H Q _ => ∃ a s t p, vs = [.ref a] ∧ FlAt CF H a (.fin s t p) ∧ (Fl.fin s t p).ok ∧
  ∀ q H', Same H H' → H q = none → H' q = some (.tup [.int (ratT s t p), .int (ratB p)]) → Q (.ref q) H'
theorem ok_bounds {s t p : Int} (h : (Fl.fin s t p).ok) : bits s ≤ 1 ∧ bits t ≤ 53 ∧ -1074 ≤ p ∧ p ≤ 1023 ∧ 0 ≤ t ∧ bits t + p ≤ 1024 := by
  obtain ⟨hs, h0, h1, h2, h3⟩ := h
  have b1 : bits s ≤ 1 := by rcases hs with rfl | rfl <;> decide
  have b2 : bits t ≤ ((53 : Nat) : Int) := (bits_lt_pow h0).2 (by rw [← pow53]; exact h1)
  by_cases z : t = 0
  · have := h2 z
    subst z
    rw [bits_zero]
    omega
  · obtain ⟨h4, h5, h6⟩ := h3 z
    have : 0 < Builtin.Int.intBits t := bits_pos (by omega)
    have e : bits t = (Builtin.Int.intBits t : Nat) := rfl
    omega
theorem sc_Float_ratio : FnScope ["self"] ["self"] (defScope s_Float_ratio) := ⟨rfl, rfl, rfl, by decide +kernel, rfl, by decide +kernel, by decide +kernel⟩
theorem ok_ratio (T : All K mg CF) : KnM P w K mg base CX0 1 CF "ratio" ["self"] (spRatio CF) := by
  refine T.x_ratio.kn fun f fd F => ?_
  refine F.ok sc_Float_ratio (fun vs H Q E h => ?_) (fun cdv A outer s H vs Q E hr h => ?_)
  · obtain ⟨a, s, t, p, rfl, _⟩ := h
    rfl
  · obtain ⟨a, s, t, p, rfl, ⟨dx, h1⟩, ok, q⟩ := h
    obtain ⟨bs, bt, p1, p2, t0, tp⟩ := ok_bounds ok
    refine ⟨_, (pss_cons (ps_if (pt_cmpR op_lt (pe_fld (pv 0) rfl) pe_int (nomark _)) (pss_one (ps_ret (pe_tup (pa_cons (pe_op op_mulX (pe_fld (pv 0) rfl) (pe_fld (pv 0) rfl)) (pa_cons (pe_op op_shlW pe_int (pe_op op_sub pe_int (pe_fld (pv 0) rfl))) pa_nil))))) pss_nil)
      (pss_one (ps_ret (pe_tup (pa_cons (pe_op op_mulX (pe_fld (pv 0) rfl) (pe_op op_shlW (pe_fld (pv 0) rfl) (pe_fld (pv 0) rfl))) (pa_cons pe_int pa_nil)))))), ?_⟩
    repeat walk_at "rd"
    refine w_fldI h1 T.l_Float T.n_power (flds_p _ _ _) ?_
    repeat walk_at "rd"
    refine iD (fun c => ?_) (fun c => ?_)
    · have c' : p < 0 := c
      repeat walk_at "rd"
      refine w_fldI h1 T.l_Float T.n_sign (flds_s _ _ _) ?_
      repeat walk_at "rd"
      refine w_fldI h1 T.l_Float T.n_top (flds_t _ _ _) ?_
      refine w_I (cmulx (i := s) (j := t) (by omega) (by omega)) ?_
      repeat walk_at "rd"
      refine w_fldI h1 T.l_Float T.n_power (flds_p _ _ _) ?_
      repeat walk_at "rd"
      refine w_I (cshl (i := 1) (j := 0 - p) (by decide) (by omega) (by omega)) ?_
      repeat walk_at "rd"
      refine w_tup2 fun a2 H2 s2 n2 h2 => ?_
      repeat walk_at "rd"
      refine q a2 H2 s2 n2 ?_
      rw [h2]
      unfold ratT ratB
      rw [if_pos c', if_pos c', Int.one_mul] <;> rfl
    · have c' : ¬ p < 0 := c
      repeat walk_at "rd"
      refine w_fldI h1 T.l_Float T.n_sign (flds_s _ _ _) ?_
      repeat walk_at "rd"
      refine w_fldI h1 T.l_Float T.n_top (flds_t _ _ _) ?_
      repeat walk_at "rd"
      refine w_fldI h1 T.l_Float T.n_power (flds_p _ _ _) ?_
      refine w_I (cshl (i := t) (j := p) (by omega) (by omega) (by omega)) ?_
      refine w_I (cmulx (i := s) (j := t * 2 ^ p.toNat) (by omega) (by have := bits_mul_pow t0 p.toNat; omega)) ?_
      repeat walk_at "rd"
      refine w_tup2 fun a2 H2 s2 n2 h2 => ?_
      repeat walk_at "rd"
      refine q a2 H2 s2 n2 ?_
      rw [h2]
      unfold ratT ratB
      rw [if_neg c', if_neg c'] <;> rfl
/-- a float is itself; an int of 64 bits the nearest -/
def spToF (K : PySem.W.Frag) (CF : Addr) : Sp := fun vs H Q _ => (∃ a f, vs = [.ref a] ∧ FlAt CF H a f ∧ Q (.ref a) H) ∨
  (∃ i, vs = [.int i] ∧ bits i ≤ 2000 ∧ NewF CF (nearM (if i < 0 then -1 else 1) (if i < 0 then -i else i) 1) H Q)
theorem sc_to_float : FnScope ["number"] ["number"] (defScope s_to_float) := ⟨rfl, rfl, rfl, by decide +kernel, rfl, by decide +kernel, by decide +kernel⟩
theorem ok_to_float (T : All K mg CF) (k_sign_of : Kn P w K mg base CX0 1 "sign_of" ["is_negative"] spSign) (k_nearest : Kn P w K mg base CX0 5 "nearest" ["sign", "top", "bottom"] (spNear CF)) : Kn P w K mg base CX0 6 "to_float" ["number"] (spToF K CF) := by
  refine T.x_to_float.kn fun f fd F => ?_
  refine F.ok sc_to_float (fun vs H Q E h => ?_) (fun cdv A outer s H vs Q E hr h => ?_)
  · rcases h with ⟨a, f, rfl, _⟩ | ⟨i, rfl, _⟩ <;> rfl
  · refine ⟨_, (pss_cons (ps_if (pt_val (pe_callB call_isi (by rfl) T.b_isinstance boot_isinstance (pa_cons (pv 0) (pa_cons (pg "Float" T.g_Float (rref _)) pa_nil)))) (pss_one (ps_ret (pv 0))) pss_nil)
      (pss_one (ps_ret (pk k_nearest hr (pa_cons (pk k_sign_of hr (pa_cons (pe_cmpR op_lt (pv 0) pe_int (nomark _)) pa_nil)) (pa_cons (pe_callB call_abs (by rfl) T.b_abs boot_abs (pa_cons (pv 0) pa_nil)) (pa_cons pe_int pa_nil))))))), ?_⟩
    rcases h with ⟨a, f, rfl, ⟨dx, h1⟩, q⟩ | ⟨i, rfl, hb, q⟩
    · obtain ⟨t, ty, i1, i2, i3, i4⟩ := says_fl T h1
      repeat walk_at "rd"
      refine w_isi (.own CF) ty i4 ?_
      repeat walk_at "rd"
      exact q
    · obtain ⟨t, ty, i1, i2, i3, i4⟩ := says_int (i := i) (H := H) T
      repeat walk_at "rd"
      refine w_isi (.own CF) ty i4 ?_
      repeat walk_at "rd"
      refine ⟨_, rfl, ?_⟩
      repeat walk_at "rd"
      refine ⟨_, _, _, rfl, ?_, ?_, by decide, ?_, by decide, ?_⟩
      · by_cases c : i < 0
        · rw [decide_eq_true c, if_pos rfl]; exact .inr rfl
        · rw [decide_eq_false c, if_neg Bool.false_ne_true]; exact .inl rfl
      · split <;> omega
      · have e : bits (if i < 0 then -i else i) = bits i := by
          split
          · exact congrArg Nat.cast (by unfold Builtin.Int.intBits; simp)
          · rfl
        rw [e]
        omega
      · have e : (if decide (i < 0) = true then (-1 : Int) else 1) = (if i < 0 then -1 else 1) := by
          by_cases c : i < 0
          · rw [decide_eq_true c, if_pos rfl, if_pos c]
          · rw [decide_eq_false c, if_neg Bool.false_ne_true, if_neg c]
        rw [e]
        exact q
theorem lk_fin (s : Int) (t : V) (p : Int) : (flds s t p).lookup ("is_finite" : Str) = none := flds_no s t p (by decide +kernel) (by decide +kernel) (by decide +kernel)
theorem lk_rat (s : Int) (t : V) (p : Int) : (flds s t p).lookup ("ratio" : Str) = none := flds_no s t p (by decide +kernel) (by decide +kernel) (by decide +kernel)
end
end Nu

set_option Elab.async false
set_option linter.all false
set_option maxRecDepth 100000
set_option autoImplicit false
set_option maxHeartbeats 4000000
namespace Nu
open PySem PySem.Spec PyProof.Rows L2 Rd
local macro_rules | `(tactic| walk_at "hp") => `(tactic| first | assumption | (refine same_get ?sm ?_; (case sm => assumption); walk_at "hp"))
local macro_rules | `(tactic| walk_at "rd") => `(tactic| first
  | with_reducible refine w_nx ?_
  | with_reducible refine w_rt ?_
  | with_reducible refine w_bk ?_
  | with_reducible refine w_ct ?_
  | with_reducible refine w_seq ?_
  | with_reducible refine w_next ?_
  | with_reducible refine w_ret ?_
  | with_reducible refine w_ifS ?_
  | with_reducible refine w_asg ?_
  | with_reducible refine w_name ?_
  | with_reducible refine w_par ?_
  | with_reducible refine w_parI ?_
  | with_reducible refine w_ii ?_
  | with_reducible refine w_i1 ?_
  | with_reducible refine w_drop ?_
  | with_reducible refine w_sFld ?_
  | ((with_reducible refine' w_var ?rdh ?_); (case rdh => exact rfl))
  | with_reducible refine w_c ?_
  | with_reducible refine w_op ?_
  | with_reducible refine w_un ?_
  | with_reducible refine w_I0 ?_
  | with_reducible refine w_U ?_
  | with_reducible refine w_bits ?_
  | with_reducible refine w_bitsI ?_
  | with_reducible refine w_tup ?_
  | with_reducible refine w_lst ?_
  | with_reducible refine w_nil ?_
  | with_reducible refine w_cons ?_
  | with_reducible refine w_fld ?_
  | with_reducible refine w_call ?_
  | with_reducible refine w_make ?_
  | with_reducible refine w_gsub ?_
  | with_reducible refine w_int1 ?_
  | with_reducible refine w_intB ?_
  | with_reducible refine w_for ?_
  | with_reducible refine w_rng1 ?_
  | with_reducible refine w_iList ?_
  | with_reducible refine w_iTup ?_
  | with_reducible refine w_makeD ?_
  | with_reducible refine w_nn ?_
  | with_reducible refine w_subB ?_
  | with_reducible refine w_meth ?_
  | with_reducible refine w_cb ?_
  | with_reducible refine w_test ?_
  | with_reducible refine w_B ?_
  | with_reducible refine w_bl ?_
  | with_reducible refine w_andV ?_
  | with_reducible refine w_orV ?_
  | with_reducible refine w_notV ?_
  | with_reducible refine w_and ?_
  | with_reducible refine w_or ?_
  | with_reducible refine w_not ?_
  | with_reducible refine w_if ?_
  | with_reducible refine w_gnil ?_
  | with_reducible refine w_gcons ?_
  | with_reducible refine iT ?_
  | with_reducible refine iF ?_
  | with_reducible refine w_eqI ?_
  | with_reducible refine w_neI ?_
  | with_reducible refine w_eqS ?_
  | with_reducible refine w_eqIS ?_
  | with_reducible refine w_eqSI ?_)

abbrev s_law_well : Stmt := top 33
abbrev s_law_draw : Stmt := top 34
abbrev s_law_one : Stmt := top 35
abbrev s_law_great : Stmt := top 36
structure AllL (K : PySem.W.Frag) (mg : Str → Option Value) (CF : Addr) : Prop extends All K mg CF where
  x_well : Tx K mg "_law_well" "_law_well" s_law_well ["cell"]
  x_draw : Tx K mg "_law_draw" "_law_draw" s_law_draw ["well", "many"]
  x_one : Tx K mg "_law_one" "_law_one" s_law_one ["well", "some"]
  x_great : Tx K mg "_law_great" "_law_great" s_law_great ["well", "bits"]
/-! ### the well: a list of three ints -/
structure WellD (n : Nat) (a b c : Int) : Prop where
  a0 : 0 ≤ a
  a1 : bits a ≤ 1048580
  b0 : 0 ≤ b
  b1 : b < 2147483647
  c0 : 0 ≤ c
  c1 : c ≤ n
def Well (n : Nat) (H : Hp) (w : Addr) : Prop := ∃ a b c, H w = some (.lst [.int a, .int b, .int c]) ∧ WellD n a b c
theorem Well.mono {n m : Nat} {H : Hp} {w : Addr} (h : Well n H w) (hm : n ≤ m) : Well m H w := by
  obtain ⟨a, b, c, e, d⟩ := h
  exact ⟨a, b, c, e, ⟨d.a0, d.a1, d.b0, d.b1, d.c0, by have := d.c1; omega⟩⟩
theorem Well.same {n : Nat} {H H' : Hp} {w : Addr} (h : Well n H w) (s : Same H H') : Well n H' w := by
  obtain ⟨a, b, c, e, d⟩ := h
  exact ⟨a, b, c, s _ _ e, d⟩
theorem bits_small {n : Int} {k : Nat} (h0 : 0 ≤ n) (h : n < 2 ^ k) : bits n ≤ k := (bits_lt_pow h0).2 h
theorem bits_i (n : Int) : bits n = (Builtin.Int.intBits n : Nat) := rfl
theorem cmulS {i j : Int} (h : i.natAbs < 18446744073709551616) (h' : j.natAbs < 18446744073709551616) : CMulX i j := by
  refine cmulW ?_
  have a := (bits_le (n := i) (k := 64)).2 h
  have b := (bits_le (n := j) (k := 64)).2 h'
  unfold bits at a b
  omega
section
variable {P : Program} {w : World} {K : PySem.W.Frag} {mg : Str → Option Value} {base : Heap} {CF : Addr}
def spWell : Sp := fun vs H Q _ => ∃ c, vs = [.int c] ∧ bits c ≤ 1048576 ∧ ∀ p H', Same H H' → H p = none → Well 0 H' p → Q (.ref p) H'
theorem sc_law_well : FnScope ["cell"] ["cell"] (defScope s_law_well) := ⟨rfl, rfl, rfl, by decide +kernel, rfl, by decide +kernel, by decide +kernel⟩
theorem ok_well (T : AllL K mg CF) : Kn P w K mg base CX0 1 "_law_well" ["cell"] spWell := by
  refine T.x_well.kn fun f fd F => ?_
  refine F.ok sc_law_well (fun vs H Q E h => ?_) (fun cdv A outer s H vs Q E hr h => ?_)
  · obtain ⟨c, rfl, _⟩ := h
    rfl
  · obtain ⟨c, rfl, hc, q⟩ := h
    refine ⟨_, (pss_one (ps_ret (pe_lst (pa_cons (pe_op op_mulX (pv 0) (pe_callTy call_int1 (by rfl) T.b_int boot_int (pa_cons (pe_cmpR op_ge (pv 0) (pe_op op_pow pe_int pe_int) (nomark _)) pa_nil))) (pa_cons (pe_op op_mod (pe_callTy call_int1 (by rfl) T.b_int boot_int (pa_cons (pv 0) pa_nil)) pe_int) (pa_cons pe_int pa_nil)))))), ?_⟩
    repeat walk_at "rd"
    refine w_I (cpow (by decide) (by decide) (by decide)) ?_
    repeat walk_at "rd"
    refine w_I (cmulW (by have : bits (if decide (10 ^ Int.toNat 18 ≤ c) = true then (1 : Int) else 0) ≤ 1 := by split <;> decide
                          unfold bits at this hc; omega)) ?_
    repeat walk_at "rd"
    refine w_I (by decide) ?_
    repeat walk_at "rd"
    refine w_lst3 fun p H' s n h => ?_
    refine q p H' s n ⟨_, _, _, h, ?_⟩
    by_cases g : (10 : Int) ^ Int.toNat 18 ≤ c
    · rw [decide_eq_true g, if_pos rfl, Int.mul_one]
      have : (0 : Int) < 10 ^ Int.toNat 18 := by decide
      exact ⟨by omega, by omega, Int.emod_nonneg _ (by decide), Int.emod_lt_of_pos _ (by decide), Int.le_refl _, Int.le_refl _⟩
    · rw [decide_eq_false g, if_neg Bool.false_ne_true, Int.mul_zero]
      exact ⟨Int.le_refl _, by decide, Int.emod_nonneg _ (by decide), Int.emod_lt_of_pos _ (by decide), Int.le_refl _, Int.le_refl _⟩
/-! ### a draw -/
def spDraw : Sp := fun vs H Q _ => ∃ p many n, vs = [.ref p, .int many] ∧ Well n H p ∧ n < 1000000 ∧ 0 < many ∧ bits many ≤ 64 ∧
  ∀ r H', Oth p H H' → Well (n + 1) H' p → 0 ≤ r → r < many → Q (.int r) H'
theorem sc_law_draw : FnScope ["well", "many", "digit", "number"] ["well", "many"] (defScope s_law_draw) := ⟨rfl, rfl, rfl, by decide +kernel, rfl, by decide +kernel, by decide +kernel⟩
theorem ok_draw (T : AllL K mg CF) : Kn P w K mg base CX0 1 "_law_draw" ["well", "many"] spDraw := by
  refine T.x_draw.kn fun f fd F => ?_
  refine F.ok sc_law_draw (fun vs H Q E h => ?_) (fun cdv A outer s H vs Q E hr h => ?_)
  · obtain ⟨p, many, n, rfl, _⟩ := h
    rfl
  · obtain ⟨p, many, n, rfl, ⟨a, b, c, hw, d⟩, hn, m0, m1, q⟩ := h
    refine ⟨_, (pss_cons (ps_if (pt_cmpR op_gt (pe_ix ix_list (pv 0) pe_int (fun _ _ => rfl)) pe_int (nomark _)) (pss_cons (ps_set (i := 2) sc_law_draw.nd rfl (Or.inl rfl) (pe_op op_mod (pe_callTy call_int1 (by rfl) T.b_int boot_int (pa_cons (pe_ix ix_list (pv 0) pe_int (fun _ _ => rfl)) pa_nil)) (pv 1)))
      (pss_cons (ps_asg (pe_op op_fdivW (pe_ix ix_list (pv 0) pe_int (fun _ _ => rfl)) (pv 1)) (pg_sub (pv 0) pe_int set_list))
      (pss_one (ps_ret (pv 2))))) pss_nil)
      (pss_cons (ps_asg (pe_op op_add (pe_ix ix_list (pv 0) pe_int (fun _ _ => rfl)) pe_int) (pg_sub (pv 0) pe_int set_list))
      (pss_cons (ps_set (i := 3) sc_law_draw.nd rfl (Or.inl rfl) (pe_op op_mod (pe_callTy call_int1 (by rfl) T.b_int boot_int (pa_cons (pe_op op_add (pe_op op_add (pe_op op_mulX (pe_ix ix_list (pv 0) pe_int (fun _ _ => rfl)) pe_int) (pe_op op_mulX pe_int (pe_ix ix_list (pv 0) pe_int (fun _ _ => rfl)))) pe_int) pa_nil)) pe_int))
      (pss_cons (ps_set (i := 3) sc_law_draw.nd rfl (Or.inl rfl) (pe_op op_mod (pe_callTy call_int1 (by rfl) T.b_int boot_int (pa_cons (pe_op op_mulX (pv 3) (pe_op op_add (pe_op op_fdivW (pv 3) pe_int) pe_int)) pa_nil)) pe_int))
      (pss_cons (ps_set (i := 3) sc_law_draw.nd rfl (Or.inl rfl) (pe_op op_mod (pe_callTy call_int1 (by rfl) T.b_int boot_int (pa_cons (pe_op op_mulX (pv 3) (pe_op op_add (pe_op op_add (pe_op op_fdivW (pv 3) pe_int) pe_int) (pe_ix ix_list (pv 0) pe_int (fun _ _ => rfl)))) pa_nil)) pe_int))
      (pss_one (ps_ret (pe_op op_mod (pe_callTy call_int1 (by rfl) T.b_int boot_int (pa_cons (pe_op op_fdivW (pv 3) pe_int) pa_nil)) (pv 1))))))))), ?_⟩
    obtain ⟨a0, a1, b0, b1, c0, c1⟩ := d
    repeat walk_at "rd"
    refine w_ixL hw (v := .int a) rfl ?_
    repeat walk_at "rd"
    refine iD (fun g => ?_) (fun g => ?_)
    · repeat walk_at "rd"
      refine w_ixL hw (v := .int a) rfl ?_
      repeat walk_at "rd"
      refine w_I m0 ?_
      repeat walk_at "rd"
      refine w_ixL hw (v := .int a) rfl ?_
      repeat walk_at "rd"
      refine w_I (cdivw m0 (by omega)) ?_
      repeat walk_at "rd"
      refine w_setL hw rfl ?_
      repeat walk_at "rd"
      refine q _ _ Oth.refl.put ⟨_, _, _, upd_same, ?_⟩ (Int.emod_nonneg _ (by omega)) (Int.emod_lt_of_pos _ m0)
      have e : a / many ≤ a := Int.ediv_le_self _ a0
      have e0 : 0 ≤ a / many := Int.ediv_nonneg a0 (by omega)
      exact ⟨e0, by have := bits_mono e0 e; omega, b0, b1, c0, by omega⟩
    · repeat walk_at "rd"
      refine w_ixL hw (v := .int c) rfl ?_
      repeat walk_at "rd"
      refine w_setL (j := 2) hw rfl ?_
      have hw2 := upd_same (H := H) (a := p) (o := .lst (List.set [V.int a, .int b, .int c] 2 (.int (c + 1))))
      have o2 := (Oth.refl (x := p) (H := H)).put (o := .lst (List.set [V.int a, .int b, .int c] 2 (.int (c + 1))))
      generalize upd H p (.lst (List.set [V.int a, .int b, .int c] 2 (.int (c + 1)))) = H2 at hw2 o2 ⊢
      change H2 p = some (.lst [.int a, .int b, .int (c + 1)]) at hw2
      have W2 : Well (n + 1) H2 p := ⟨_, _, _, hw2, ⟨a0, a1, b0, b1, by omega, by omega⟩⟩
      repeat walk_at "rd"
      refine w_ixL hw2 (v := .int b) rfl ?_
      repeat walk_at "rd"
      refine w_I (cmulS (by omega) (by decide)) ?_
      repeat walk_at "rd"
      refine w_ixL hw2 (v := .int (c + 1)) rfl ?_
      refine w_I (cmulS (by decide) (by omega)) ?_
      repeat walk_at "rd"
      refine w_I (by decide) ?_
      have g0 := Int.emod_nonneg (b * 48271 + 30103 * (c + 1) + 11) (show (2147483647 : Int) ≠ 0 by decide)
      have g1 := Int.emod_lt_of_pos (b * 48271 + 30103 * (c + 1) + 11) (show (0 : Int) < 2147483647 by decide)
      generalize (b * 48271 + 30103 * (c + 1) + 11) % 2147483647 = x1 at g0 g1 ⊢
      repeat walk_at "rd"
      refine w_I (cdivw (by decide) (by decide)) ?_
      repeat walk_at "rd"
      refine w_I (cmulS (by omega) (by omega)) ?_
      repeat walk_at "rd"
      refine w_I (by decide) ?_
      have g2 := Int.emod_nonneg (x1 * (x1 / 1009 + 69621)) (show (2147483629 : Int) ≠ 0 by decide)
      have g3 := Int.emod_lt_of_pos (x1 * (x1 / 1009 + 69621)) (show (0 : Int) < 2147483629 by decide)
      generalize x1 * (x1 / 1009 + 69621) % 2147483629 = x2 at g2 g3 ⊢
      repeat walk_at "rd"
      refine w_I (cdivw (by decide) (by decide)) ?_
      repeat walk_at "rd"
      refine w_ixL hw2 (v := .int (c + 1)) rfl ?_
      repeat walk_at "rd"
      refine w_I (cmulS (by omega) (by omega)) ?_
      repeat walk_at "rd"
      refine w_I (by decide) ?_
      repeat walk_at "rd"
      refine w_I (cdivw (by decide) (by decide)) ?_
      repeat walk_at "rd"
      refine w_I m0 ?_
      exact q _ _ o2 W2 (Int.emod_nonneg _ (by omega)) (Int.emod_lt_of_pos _ m0)
/-! ### one of some -/
def spOne : Sp := fun vs H Q _ => ∃ (p l : Addr) (n : Nat) (xs : List V), vs = [.ref p, .ref l] ∧ Well n H p ∧ n < 1000000 ∧ l ≠ p ∧ H l = some (.lst xs) ∧ 0 < xs.length ∧ xs.length ≤ 1000 ∧
  ∀ (i : Nat) v H', xs[i]? = some v → Oth p H H' → Well (n + 1) H' p → Q v H'
theorem atI_nat {xs : List V} {r : Int} (h0 : 0 ≤ r) (h1 : r < xs.length) : ∃ v, atI xs r = some v ∧ xs[r.toNat]? = some v := by
  obtain ⟨k, rfl⟩ := Int.eq_ofNat_of_zero_le h0
  have h : k < xs.length := by omega
  refine ⟨xs[k], ?_, ?_⟩
  · unfold atI ixN
    rw [if_pos h0, if_pos h1]
    simp [h]
  · simp [h]
theorem sc_law_one : FnScope ["well", "some"] ["well", "some"] (defScope s_law_one) := ⟨rfl, rfl, rfl, by decide +kernel, rfl, by decide +kernel, by decide +kernel⟩
theorem ok_one (T : AllL K mg CF) (k_law_draw : Kn P w K mg base CX0 1 "_law_draw" ["well", "many"] spDraw) : Kn P w K mg base CX0 2 "_law_one" ["well", "some"] spOne := by
  refine T.x_one.kn fun f fd F => ?_
  refine F.ok sc_law_one (fun vs H Q E h => ?_) (fun cdv A outer s H vs Q E hr h => ?_)
  · obtain ⟨p, l, n, xs, rfl, _⟩ := h
    rfl
  · obtain ⟨p, l, n, xs, rfl, hw, hn, lp, hl, l0, l1, q⟩ := h
    refine ⟨_, (pss_one (ps_ret (pe_ix ix_list (pv 1) (pk k_law_draw hr (pa_cons (pv 0) (pa_cons (pe_callB call_len_seq (by rfl) T.b_len boot_len (pa_cons (pv 1) pa_nil)) pa_nil))) (fun _ _ => rfl)))), ?_⟩
    repeat walk_at "rd"
    refine w_lenL hl ?_
    repeat walk_at "rd"
    refine ⟨p, _, n, rfl, hw, hn, by omega, ?_, fun r H' o W r0 r1 => ?_⟩
    · have := (bits_lt_pow (n := (xs.length : Int)) (k := 64) (by omega)).2 (Int.lt_trans (show (xs.length : Int) < 18446744073709551615 by omega) (by decide))
      exact this
    repeat walk_at "rd"
    obtain ⟨v, e1, e2⟩ := atI_nat r0 r1
    refine w_ixL (o l _ lp hl) e1 ?_
    exact q _ v H' e2 o W
end
end Nu

set_option Elab.async false
set_option linter.all false
set_option maxRecDepth 100000
set_option autoImplicit false
set_option maxHeartbeats 4000000
namespace Nu
open PySem PySem.Spec PyProof.Rows L2 Rd
local macro_rules | `(tactic| walk_at "hp") => `(tactic| first | assumption | (refine same_get ?sm ?_; (case sm => assumption); walk_at "hp"))
local macro_rules | `(tactic| walk_at "rd") => `(tactic| first
  | with_reducible refine w_nx ?_
  | with_reducible refine w_rt ?_
  | with_reducible refine w_bk ?_
  | with_reducible refine w_ct ?_
  | with_reducible refine w_seq ?_
  | with_reducible refine w_next ?_
  | with_reducible refine w_ret ?_
  | with_reducible refine w_ifS ?_
  | with_reducible refine w_asg ?_
  | with_reducible refine w_name ?_
  | with_reducible refine w_par ?_
  | with_reducible refine w_parI ?_
  | with_reducible refine w_ii ?_
  | with_reducible refine w_i1 ?_
  | with_reducible refine w_drop ?_
  | with_reducible refine w_sFld ?_
  | ((with_reducible refine' w_var ?rdh ?_); (case rdh => exact rfl))
  | with_reducible refine w_c ?_
  | with_reducible refine w_op ?_
  | with_reducible refine w_un ?_
  | with_reducible refine w_I0 ?_
  | with_reducible refine w_U ?_
  | with_reducible refine w_bits ?_
  | with_reducible refine w_bitsI ?_
  | with_reducible refine w_tup ?_
  | with_reducible refine w_lst ?_
  | with_reducible refine w_nil ?_
  | with_reducible refine w_cons ?_
  | with_reducible refine w_fld ?_
  | with_reducible refine w_call ?_
  | with_reducible refine w_make ?_
  | with_reducible refine w_gsub ?_
  | with_reducible refine w_int1 ?_
  | with_reducible refine w_intB ?_
  | with_reducible refine w_for ?_
  | with_reducible refine w_rng1 ?_
  | with_reducible refine w_iList ?_
  | with_reducible refine w_iTup ?_
  | with_reducible refine w_makeD ?_
  | with_reducible refine w_nn ?_
  | with_reducible refine w_subB ?_
  | with_reducible refine w_meth ?_
  | with_reducible refine w_cb ?_
  | with_reducible refine w_test ?_
  | with_reducible refine w_B ?_
  | with_reducible refine w_bl ?_
  | with_reducible refine w_andV ?_
  | with_reducible refine w_orV ?_
  | with_reducible refine w_notV ?_
  | with_reducible refine w_and ?_
  | with_reducible refine w_or ?_
  | with_reducible refine w_not ?_
  | with_reducible refine w_if ?_
  | with_reducible refine w_gnil ?_
  | with_reducible refine w_gcons ?_
  | with_reducible refine iT ?_
  | with_reducible refine iF ?_
  | with_reducible refine w_eqI ?_
  | with_reducible refine w_neI ?_
  | with_reducible refine w_eqS ?_
  | with_reducible refine w_eqIS ?_
  | with_reducible refine w_eqSI ?_)

abbrev s_law_finite : Stmt := top 37
abbrev s_law_float : Stmt := top 38
structure AllM (K : PySem.W.Frag) (mg : Str → Option Value) (CF : Addr) : Prop extends AllL K mg CF where
  x_finite : Tx K mg "_law_finite" "_law_finite" s_law_finite ["well"]
  x_float : Tx K mg "_law_float" "_law_float" s_law_float ["well"]
section
variable {P : Program} {w : World} {K : PySem.W.Frag} {mg : Str → Option Value} {base : Heap} {CF : Addr}
/-! ### a great int -/
def spGreat : Sp := fun vs H Q _ => ∃ (p : Addr) (b : Int) (n : Nat), vs = [.ref p, .int b] ∧ Well n H p ∧ n < 900000 ∧ 0 ≤ b ∧ b ≤ 100 ∧
  ∀ r H', Oth p H H' → Well (n + 10) H' p → 0 ≤ r → r < 2 ^ b.toNat → Q (.int r) H'
theorem sc_law_great : FnScope ["well", "bits", "number", "k"] ["well", "bits"] (defScope s_law_great) := ⟨rfl, rfl, rfl, by decide +kernel, rfl, by decide +kernel, by decide +kernel⟩
theorem ok_great (T : AllL K mg CF) (k_law_draw : Kn P w K mg base CX0 1 "_law_draw" ["well", "many"] spDraw) : Kn P w K mg base CX0 2 "_law_great" ["well", "bits"] spGreat := by
  refine T.x_great.kn fun f fd F => ?_
  refine F.ok sc_law_great (fun vs H Q E h => ?_) (fun cdv A outer s H vs Q E hr h => ?_)
  · obtain ⟨p, b, n, rfl, _⟩ := h
    rfl
  · obtain ⟨p, b, n, rfl, hw, hn, hb0, hb1, q⟩ := h
    refine ⟨_, (pss_cons (ps_set (i := 2) sc_law_great.nd rfl (Or.inl rfl) pe_int)
      (pss_cons (ps_for PassesOwn.never rfl (pi_range1 rfl T.b_range (pa_cons (pe_op op_add pe_int (pe_op op_fdivW (pv 1) pe_int)) pa_nil)) (pg_name (i := 3) sc_law_great.nd rfl (Or.inl rfl))
      (pss_one (ps_set (i := 2) sc_law_great.nd rfl (Or.inl rfl) (pe_op op_add (pe_op op_mulX (pv 2) pe_int) (pk k_law_draw hr (pa_cons (pv 0) (pa_cons pe_int pa_nil)))))))
      (pss_one (ps_ret (pe_op op_mod (pe_callTy call_int1 (by rfl) T.b_int boot_int (pa_cons (pv 2) pa_nil)) (pe_op op_shlW pe_int (pv 1))))))), ?_⟩
    repeat walk_at "rd"
    refine w_I (cdivw (by decide) (by decide)) ?_
    repeat walk_at "rd"
    refine ⟨by omega, by omega, ?_⟩
    have e : (1 + b / 20).toNat ≤ 6 := by omega
    generalize (1 + b / 20).toNat = m at e ⊢
    refine for_range (lo := 0) (fun i σ H' => ∃ num kv, σ = [some (.ref p), some (.int b), some (.int num), kv] ∧ Oth p H H' ∧ Well (n + i) H' p ∧ 0 ≤ num ∧ num < 2 ^ (20 * i)) ⟨0, none, rfl, Oth.refl, hw, Int.le_refl _, by decide⟩ ?_ ?_
    · intro i σ H1 hi ⟨num, kv, es, o1, w1, n0, n1⟩
      subst es
      repeat walk_at "rd"
      have bn := (bits_lt_pow n0).2 n1
      refine w_I (cmulW (by unfold bits at bn; have : Builtin.Int.intBits 1048576 = 21 := by decide
                            omega)) ?_
      repeat walk_at "rd"
      refine ⟨p, 1048576, n + i, rfl, w1, by omega, by decide, by decide, fun r H2 o2 w2 r0 r1 => ?_⟩
      repeat walk_at "rd"
      refine ⟨_, _, rfl, o1.trans o2, w2, by omega, ?_⟩
      rw [show 20 * (i + 1) = 20 * i + 20 from by omega, Int.pow_add, show (2 : Int) ^ 20 = 1048576 by decide]
      omega
    · intro σ H1 ⟨num, kv, es, o1, w1, n0, n1⟩
      subst es
      repeat walk_at "rd"
      refine w_I (cshl (by decide) hb0 (by omega)) ?_
      repeat walk_at "rd"
      have pp := pow_pos2 b.toNat
      refine w_I (by rw [Int.one_mul]; exact pp) ?_
      rw [Int.one_mul]
      exact q _ _ o1 (w1.mono (by omega)) (Int.emod_nonneg _ (by omega)) (Int.emod_lt_of_pos _ pp)
theorem u_draw {p : Addr} {many : Int} {n : Nat} {H : Hp} {Q : VK} {E : XK} (hw : Well n H p) (hn : n < 1000000) (m0 : 0 < many) (m1 : bits many ≤ 64) (q : ∀ r H', Oth p H H' → Well (n + 1) H' p → 0 ≤ r → r < many → Q (.int r) H') : spDraw ([V.ref p, V.int many] ++ []) H Q E :=
  ⟨p, many, n, rfl, hw, hn, m0, m1, q⟩
theorem u_one {p l : Addr} {xs : List V} {n : Nat} {H : Hp} {Q : VK} {E : XK} (hw : Well n H p) (hn : n < 1000000) (hl : H l = some (.lst xs)) (lp : l ≠ p) (l0 : 0 < xs.length) (l1 : xs.length ≤ 1000) (q : ∀ v H', v ∈ xs → Oth p H H' → Well (n + 1) H' p → Q v H') : spOne ([V.ref p, V.ref l] ++ []) H Q E :=
  ⟨p, l, n, xs, rfl, hw, hn, lp, hl, l0, l1, fun i v H' e o W => q v H' (List.mem_of_getElem? e) o W⟩
/-- a call of _law_one on a list that is made in the call -/
theorem u_great {p : Addr} {b : Int} {n : Nat} {H : Hp} {Q : VK} {E : XK} (hw : Well n H p) (hn : n < 900000) (m0 : 0 ≤ b) (m1 : b ≤ 100) (q : ∀ r H', Oth p H H' → Well (n + 10) H' p → 0 ≤ r → r < 2 ^ b.toNat → Q (.int r) H') : spGreat ([V.ref p, V.int b] ++ []) H Q E :=
  ⟨p, b, n, rfl, hw, hn, m0, m1, q⟩
theorem Well.ne {n : Nat} {H : Hp} {p l : Addr} (h : Well n H p) (e : H l = none) : l ≠ p := by
  rintro rfl
  obtain ⟨_, _, _, k, _⟩ := h
  rw [e] at k
  cases k
/-! ### a finite float's parts -/
structure FinA (s t p : Int) : Prop where
  hs : s = 1 ∨ s = -1
  t0 : 0 ≤ t
  t1 : t < 9007199254740992
  p0 : -1074 ≤ p
  p1 : p ≤ 971
def spFin : Sp := fun vs H Q _ => ∃ (p : Addr) (n : Nat), vs = [.ref p] ∧ Well n H p ∧ n < 800000 ∧
  ∀ q H' s t pw, Oth p H H' → Well (n + 40) H' p → H' q = some (.tup [.int s, .int t, .int pw]) → FinA s t pw → Q (.ref q) H'
theorem sc_law_finite : FnScope ["well", "sign", "way", "some"] ["well"] (defScope s_law_finite) := ⟨rfl, rfl, rfl, by decide +kernel, rfl, by decide +kernel, by decide +kernel⟩
theorem ok_finite (T : AllM K mg CF) (k_law_draw : Kn P w K mg base CX0 1 "_law_draw" ["well", "many"] spDraw) (k_law_one : Kn P w K mg base CX0 2 "_law_one" ["well", "some"] spOne) (k_law_great : Kn P w K mg base CX0 2 "_law_great" ["well", "bits"] spGreat) :
    Kn P w K mg base CX0 3 "_law_finite" ["well"] spFin := by
  refine T.x_finite.kn fun f fd F => ?_
  refine F.ok sc_law_finite (fun vs H Q E h => ?_) (fun cdv A outer s H vs Q E hr h => ?_)
  · obtain ⟨p, n, rfl, _⟩ := h
    rfl
  · obtain ⟨p, n, rfl, hw, hn, q⟩ := h
    refine ⟨_, (pss_cons (ps_par (by rfl) sc_law_finite.nd (i := 1) (j := 2) rfl rfl (by decide) rfl rfl (pa_cons (pk k_law_one hr (pa_cons (pv 0) (pa_cons (pe_lst (pa_cons pe_int (pa_cons (pe_un un_neg pe_int) pa_nil))) pa_nil))) (pa_cons (pk k_law_draw hr (pa_cons (pv 0) (pa_cons pe_int pa_nil))) pa_nil)) (by rfl))
      (pss_cons (ps_if (pt_cmpR op_eq (pv 2) pe_int (nomark _)) (pss_one (ps_ret (pe_tup (pa_cons (pv 1) (pa_cons pe_int (pa_cons pe_int pa_nil)))))) pss_nil)
      (pss_cons (ps_if (pt_cmpR op_lt (pv 2) pe_int (nomark _)) (pss_one (ps_ret (pe_tup (pa_cons (pv 1) (pa_cons (pk k_law_draw hr (pa_cons (pv 0) (pa_cons pe_int pa_nil))) (pa_cons (pk k_law_one hr (pa_cons (pv 0) (pa_cons (pe_lst (pa_cons pe_int (pa_cons pe_int (pa_cons (pe_un un_neg pe_int) (pa_cons (pe_un un_neg pe_int) pa_nil))))) pa_nil))) pa_nil)))))) pss_nil)
      (pss_cons (ps_set (i := 3) sc_law_finite.nd rfl (Or.inl rfl) (pe_lst (pa_cons (pe_op op_sub (pk k_law_draw hr (pa_cons (pv 0) (pa_cons pe_int pa_nil))) pe_int) (pa_cons (pe_op op_sub pe_int (pk k_law_draw hr (pa_cons (pv 0) (pa_cons pe_int pa_nil)))) (pa_cons (pk k_law_draw hr (pa_cons (pv 0) (pa_cons pe_int pa_nil))) (pa_cons (pe_op op_sub pe_int (pk k_law_draw hr (pa_cons (pv 0) (pa_cons pe_int pa_nil)))) pa_nil))))))
      (pss_cons (ps_set (i := 3) sc_law_finite.nd rfl (Or.inl rfl) (pe_op op_cat (pv 3) (pe_lst (pa_cons (pe_op op_sub (pe_un un_neg pe_int) (pk k_law_draw hr (pa_cons (pv 0) (pa_cons pe_int pa_nil)))) (pa_cons (pe_op op_sub (pk k_law_draw hr (pa_cons (pv 0) (pa_cons pe_int pa_nil))) pe_int) pa_nil)))))
      (pss_one (ps_ret (pe_tup (pa_cons (pv 1) (pa_cons (pk k_law_great hr (pa_cons (pv 0) (pa_cons (pk k_law_one hr (pa_cons (pv 0) (pa_cons (pe_lst (pa_cons pe_int (pa_cons pe_int (pa_cons pe_int (pa_cons pe_int pa_nil))))) pa_nil))) pa_nil))) (pa_cons (pe_callB (call_min2 rfl) (by rfl) T.b_min boot_min (pa_cons pe_int (pa_cons (pk k_law_one hr (pa_cons (pv 0) (pa_cons (pv 3) pa_nil))) pa_nil))) pa_nil))))))))))), ?_⟩
    repeat walk_at "rd"
    refine w_lst2 fun a1 H1 s1 n1 h1 => ?_
    repeat walk_at "rd"
    refine u_one (hw.same s1) (by omega) h1 (hw.ne n1) (by decide) (by decide) fun v H2 hv o2 w2 => ?_
    have o2 := (Rd.Same.oth (x := p) s1).trans o2
    obtain ⟨sg, rfl, hs⟩ : ∃ sg, v = .int sg ∧ (sg = 1 ∨ sg = -1) := by
      simp only [List.mem_cons, List.not_mem_nil, or_false] at hv
      rcases hv with rfl | rfl
      · exact ⟨_, rfl, .inl rfl⟩
      · exact ⟨_, rfl, .inr rfl⟩
    repeat walk_at "rd"
    refine u_draw w2 (by omega) (by decide) (by decide) fun way H3 o3 w3 r0 r1 => ?_
    have o3 := o2.trans o3
    repeat walk_at "rd"
    refine iD (fun _ => ?_) (fun _ => ?_)
    · repeat walk_at "rd"
      refine w_tup3 fun a4 H4 s4 n4 h4 => ?_
      repeat walk_at "rd"
      exact q a4 H4 sg 0 0 (o3.same s4) ((w3.mono (by omega)).same s4) h4 ⟨hs, by decide, by decide, by decide, by decide⟩
    repeat walk_at "rd"
    refine iD (fun _ => ?_) (fun _ => ?_)
    · repeat walk_at "rd"
      refine u_draw w3 (by omega) (by decide) (by decide) fun t H4 o4 w4 t0 t1 => ?_
      repeat walk_at "rd"
      refine w_lst4 fun a5 H5 s5 n5 h5 => ?_
      repeat walk_at "rd"
      refine u_one (w4.same s5) (by omega) h5 (w4.ne n5) (by decide) (by decide) fun v H6 hv o6 w6 => ?_
      have o6 := ((o3.trans o4).same s5).trans o6
      obtain ⟨pw, rfl, hp⟩ : ∃ pw, v = .int pw ∧ -3 ≤ pw ∧ pw ≤ 0 := by
        simp only [List.mem_cons, List.not_mem_nil, or_false] at hv
        rcases hv with rfl | rfl | rfl | rfl <;> exact ⟨_, rfl, by decide, by decide⟩
      repeat walk_at "rd"
      refine w_tup3 fun a4 H4 s4 n4 h4 => ?_
      repeat walk_at "rd"
      exact q a4 H4 sg t pw (o6.same s4) ((w6.mono (by omega)).same s4) h4 ⟨hs, t0, by omega, by omega, by omega⟩
    repeat walk_at "rd"
    refine u_draw w3 (by omega) (by decide) (by decide) fun t1 H4 o4 w4 t1l t1u => ?_
    repeat walk_at "rd"
    refine u_draw w4 (by omega) (by decide) (by decide) fun t2 H5 o5 w5 t2l t2u => ?_
    repeat walk_at "rd"
    refine u_draw w5 (by omega) (by decide) (by decide) fun t3 H6 o6 w6 t3l t3u => ?_
    repeat walk_at "rd"
    refine u_draw w6 (by omega) (by decide) (by decide) fun t4 H7 o7 w7 t4l t4u => ?_
    have o7 := (((o3.trans o4).trans o5).trans o6).trans o7
    repeat walk_at "rd"
    refine w_lst4 fun a8 H8 s8 n8 h8 => ?_
    have o8 := o7.same s8
    have w8 := w7.same s8
    have ne8 := w7.ne n8
    repeat walk_at "rd"
    refine u_draw w8 (by omega) (by decide) (by decide) fun t5 H9 o9 w9 t5l t5u => ?_
    repeat walk_at "rd"
    refine u_draw w9 (by omega) (by decide) (by decide) fun t6 H10 o10 w10 t6l t6u => ?_
    have o10 := (o8.trans o9).trans o10
    have h8 : H10 a8 = _ := (‹Oth p H9 H10›) _ _ ne8 ((‹Oth p H8 H9›) _ _ ne8 h8)
    repeat walk_at "rd"
    refine w_lst2 fun a11 H11 s11 n11 h11 => ?_
    repeat walk_at "rd"
    refine w_cat (s11 _ _ h8) h11 (by show 4 + 2 ≤ sizeLine; decide) fun a12 H12 s12 n12 h12 => ?_
    have o12 := (o10.same s11).same s12
    have w12 := (w10.same s11).same s12
    have ne12 := (w10.same s11).ne n12
    repeat walk_at "rd"
    refine w_lst4 fun a13 H13 s13 n13 h13 => ?_
    repeat walk_at "rd"
    refine u_one (w12.same s13) (by omega) h13 (w12.ne n13) (by decide) (by decide) fun v H14 hv o14 w14 => ?_
    have k14 : H14 a12 = _ := o14 _ _ ne12 (s13 _ _ h12)
    have o14 := (o12.same s13).trans o14
    obtain ⟨bt, rfl, hbt⟩ : ∃ bt, v = .int bt ∧ 0 ≤ bt ∧ bt ≤ 53 := by
      simp only [List.mem_cons, List.not_mem_nil, or_false] at hv
      rcases hv with rfl | rfl | rfl | rfl <;> exact ⟨_, rfl, by decide, by decide⟩
    repeat walk_at "rd"
    refine u_great w14 (by omega) hbt.1 (by omega) fun t H15 o15 w15 tl tu => ?_
    have k15 : H15 a12 = _ := o15 _ _ ne12 k14
    have o15 := o14.trans o15
    repeat walk_at "rd"
    refine u_one w15 (by omega) k15 ne12 (by show 0 < 6; decide) (by show 6 ≤ 1000; decide) fun v H16 hv o16 w16 => ?_
    have o16 := o15.trans o16
    obtain ⟨pw, rfl, hp⟩ : ∃ pw, v = .int pw ∧ -1074 ≤ pw ∧ pw ≤ 1100 := by
      simp only [List.cons_append, List.nil_append, List.mem_cons, List.not_mem_nil, or_false] at hv
      rcases hv with rfl | rfl | rfl | rfl | rfl | rfl <;> exact ⟨_, rfl, by omega, by omega⟩
    repeat walk_at "rd"
    refine w_tup3 fun a4 H4 s4 n4 h4 => ?_
    refine q a4 H4 sg t (if pw < 971 then pw else 971) (o16.same s4) ((w16.mono (by omega)).same s4) h4 ⟨hs, tl, ?_, by split <;> omega, by split <;> omega⟩
    have := pow_mono (a := bt.toNat) (b := 53) (by omega)
    rw [show (2 : Int) ^ 53 = 9007199254740992 by decide] at this
    omega
theorem u_fin {p : Addr} {n : Nat} {H : Hp} {Q : VK} {E : XK} (hw : Well n H p) (hn : n < 800000) (q : ∀ q H' s t pw, Oth p H H' → Well (n + 40) H' p → H' q = some (.tup [.int s, .int t, .int pw]) → FinA s t pw → Q (.ref q) H') : spFin ([V.ref p] ++ []) H Q E :=
  ⟨p, n, rfl, hw, hn, q⟩
theorem FinA.arg {s t p : Int} (h : FinA s t p) : Arg s (.int t) p (.fin s (red t p).1 (red t p).2) := by
  obtain ⟨hs, t0, t1, p0, p1⟩ := h
  refine .inl ⟨t, rfl, t0, hs, red_fits t0 (by omega) p0 ?_, rfl⟩
  have := bits_small t0 (k := 53) (by rw [show (2 : Int) ^ 53 = 9007199254740992 by decide]; exact t1)
  omega
/-! ### a float -/
def spFlt (CF : Addr) : Sp := fun vs H Q _ => ∃ (p : Addr) (n : Nat), vs = [.ref p] ∧ Well n H p ∧ n < 700000 ∧
  ∀ x f H', Oth p H H' → Well (n + 50) H' p → FlAt CF H' x f → f.ok → Q (.ref x) H'
theorem sc_law_float : FnScope ["well", "sign", "top", "power"] ["well"] (defScope s_law_float) := ⟨rfl, rfl, rfl, by decide +kernel, rfl, by decide +kernel, by decide +kernel⟩
theorem ok_float (T : AllM K mg CF) (k_law_draw : Kn P w K mg base CX0 1 "_law_draw" ["well", "many"] spDraw) (k_law_one : Kn P w K mg base CX0 2 "_law_one" ["well", "some"] spOne) (k_law_finite : Kn P w K mg base CX0 3 "_law_finite" ["well"] spFin)
    (k_Float_init : KnC P w K mg base CX0 2 "Float" CF ["self", "sign", "top", "power"] (spInit CF)) : Kn P w K mg base CX0 4 "_law_float" ["well"] (spFlt CF) := by
  refine T.x_float.kn fun f fd F => ?_
  refine F.ok sc_law_float (fun vs H Q E h => ?_) (fun cdv A outer s H vs Q E hr h => ?_)
  · obtain ⟨p, n, rfl, _⟩ := h
    rfl
  · obtain ⟨p, n, rfl, hw, hn, q⟩ := h
    refine ⟨_, (pss_cons (ps_if (pt_cmpR op_eq (pk k_law_draw hr (pa_cons (pv 0) (pa_cons pe_int pa_nil))) pe_int (nomark _)) (pss_one (ps_ret (pk k_law_one hr (pa_cons (pv 0) (pa_cons (pe_lst (pa_cons (pkC k_Float_init hr (pa_cons pe_int (pa_cons pe_str (pa_cons pe_int pa_nil)))) (pa_cons (pkC k_Float_init hr (pa_cons (pe_un un_neg pe_int) (pa_cons pe_str (pa_cons pe_int pa_nil)))) (pa_cons (pkC k_Float_init hr (pa_cons pe_int (pa_cons pe_str (pa_cons pe_int pa_nil)))) pa_nil)))) pa_nil))))) pss_nil)
      (pss_cons (ps_asg (pk k_law_finite hr (pa_cons (pv 0) pa_nil)) (pg_tup (by rfl) (pgs_cons (pg_name (i := 1) sc_law_float.nd rfl (Or.inl rfl)) (pgs_cons (pg_name (i := 2) sc_law_float.nd rfl (Or.inl rfl)) (pgs_cons (pg_name (i := 3) sc_law_float.nd rfl (Or.inl rfl)) pgs_nil)))))
      (pss_one (ps_ret (pkC k_Float_init hr (pa_cons (pv 1) (pa_cons (pv 2) (pa_cons (pv 3) pa_nil)))))))), ?_⟩
    repeat walk_at "rd"
    refine u_draw hw (by omega) (by decide) (by decide) fun r H1 o1 w1 r0 r1 => ?_
    repeat walk_at "rd"
    refine iD (fun _ => ?_) (fun _ => ?_)
    · repeat walk_at "rd"
      refine u_Float (.inr (.inl ⟨rfl, rfl, .inl rfl, rfl⟩)) fun x1 H2 s2 n2 h2 => ?_
      repeat walk_at "rd"
      refine u_Float (.inr (.inl ⟨rfl, rfl, .inr rfl, rfl⟩)) fun x2 H3 s3 n3 h3 => ?_
      repeat walk_at "rd"
      refine u_Float (.inr (.inr ⟨rfl, rfl, rfl, rfl⟩)) fun x3 H4 s4 n4 h4 => ?_
      repeat walk_at "rd"
      refine w_lst3 fun a5 H5 s5 n5 h5 => ?_
      repeat walk_at "rd"
      have w5 := (((w1.same s2).same s3).same s4).same s5
      refine u_one w5 (by omega) h5 ((((w1.same s2).same s3).same s4).ne n5) (by show 0 < 3; decide) (by show 3 ≤ 1000; decide) fun v H6 hv o6 w6 => ?_
      have o7 := ((((o1.same s2).same s3).same s4).same s5).trans o6
      have k1 : ∀ x f, x ≠ p → FlAt CF H5 x f → FlAt CF H6 x f := fun x f hx ⟨dx, e⟩ => ⟨dx, o6 _ _ hx e⟩
      simp only [List.mem_cons, List.not_mem_nil, or_false] at hv
      rcases hv with rfl | rfl | rfl
      · exact q x1 _ H6 o7 (w6.mono (by omega)) (k1 _ _ (w1.ne n2) (((h2.same s3).same s4).same s5)) (.inl rfl)
      · exact q x2 _ H6 o7 (w6.mono (by omega)) (k1 _ _ ((w1.same s2).ne n3) ((h3.same s4).same s5)) (.inr rfl)
      · exact q x3 _ H6 o7 (w6.mono (by omega)) (k1 _ _ (((w1.same s2).same s3).ne n4) (h4.same s5)) trivial
    · repeat walk_at "rd"
      refine u_fin w1 (by omega) fun a2 H2 s t pw o2 w2 h2 fa => ?_
      refine w_gtup h2 rfl ?_
      repeat walk_at "rd"
      refine u_Float fa.arg fun x H3 s3 n3 h3 => ?_
      exact q x _ H3 ((o1.trans o2).same s3) ((w2.same s3).mono (by omega)) h3 fa.arg.ok
end
end Nu

set_option Elab.async false
set_option linter.all false
set_option maxRecDepth 100000
set_option autoImplicit false
set_option maxHeartbeats 4000000
namespace Nu
open PySem PySem.Spec PyProof.Rows L2 Rd
local macro_rules | `(tactic| walk_at "hp") => `(tactic| first | assumption | (refine same_get ?sm ?_; (case sm => assumption); walk_at "hp"))
local macro_rules | `(tactic| walk_at "rd") => `(tactic| first
  | with_reducible refine w_nx ?_
  | with_reducible refine w_rt ?_
  | with_reducible refine w_bk ?_
  | with_reducible refine w_ct ?_
  | with_reducible refine w_seq ?_
  | with_reducible refine w_next ?_
  | with_reducible refine w_ret ?_
  | with_reducible refine w_ifS ?_
  | with_reducible refine w_asg ?_
  | with_reducible refine w_name ?_
  | with_reducible refine w_par ?_
  | with_reducible refine w_parI ?_
  | with_reducible refine w_ii ?_
  | with_reducible refine w_i1 ?_
  | with_reducible refine w_drop ?_
  | with_reducible refine w_sFld ?_
  | ((with_reducible refine' w_var ?rdh ?_); (case rdh => exact rfl))
  | with_reducible refine w_c ?_
  | with_reducible refine w_op ?_
  | with_reducible refine w_un ?_
  | with_reducible refine w_I0 ?_
  | with_reducible refine w_U ?_
  | with_reducible refine w_bits ?_
  | with_reducible refine w_bitsI ?_
  | with_reducible refine w_tup ?_
  | with_reducible refine w_lst ?_
  | with_reducible refine w_nil ?_
  | with_reducible refine w_cons ?_
  | with_reducible refine w_fld ?_
  | with_reducible refine w_call ?_
  | with_reducible refine w_make ?_
  | with_reducible refine w_gsub ?_
  | with_reducible refine w_int1 ?_
  | with_reducible refine w_intB ?_
  | with_reducible refine w_for ?_
  | with_reducible refine w_rng1 ?_
  | with_reducible refine w_iList ?_
  | with_reducible refine w_iTup ?_
  | with_reducible refine w_makeD ?_
  | with_reducible refine w_nn ?_
  | with_reducible refine w_subB ?_
  | with_reducible refine w_meth ?_
  | with_reducible refine w_cb ?_
  | with_reducible refine w_test ?_
  | with_reducible refine w_B ?_
  | with_reducible refine w_bl ?_
  | with_reducible refine w_andV ?_
  | with_reducible refine w_orV ?_
  | with_reducible refine w_notV ?_
  | with_reducible refine w_and ?_
  | with_reducible refine w_or ?_
  | with_reducible refine w_not ?_
  | with_reducible refine w_if ?_
  | with_reducible refine w_gnil ?_
  | with_reducible refine w_gcons ?_
  | with_reducible refine iT ?_
  | with_reducible refine iF ?_
  | with_reducible refine w_eqI ?_
  | with_reducible refine w_neI ?_
  | with_reducible refine w_eqS ?_
  | with_reducible refine w_eqIS ?_
  | with_reducible refine w_eqSI ?_)

abbrev s_Float_eq : Stmt := inClass (top 12) 2
abbrev s_nan : Stmt := top 17
abbrev s_added : Stmt := top 27
abbrev s_multiplied : Stmt := top 28
abbrev s_divided : Stmt := top 29
abbrev s_floored : Stmt := top 30
abbrev s_remainder : Stmt := top 31
abbrev s_by_floats : Stmt := top 26
abbrev s_arith : Stmt := top 23
abbrev s_wrapped : Stmt := top 20
structure AllN (K : PySem.W.Frag) (mg : Str → Option Value) (CF : Addr) : Prop extends AllM K mg CF where
  q_Float : EqC K CF
  x_eq : TxM K CF "__eq__" "Float.__eq__" s_Float_eq ["self", "other"]
  x_nan : Tx K mg "nan" "nan" s_nan []
  x_added : Tx K mg "added" "added" s_added ["one", "other"]
  x_multiplied : Tx K mg "multiplied" "multiplied" s_multiplied ["one", "other"]
  x_divided : Tx K mg "divided" "divided" s_divided ["one", "other"]
  x_floored : Tx K mg "floored" "floored" s_floored ["number"]
  x_remainder : Tx K mg "remainder" "remainder" s_remainder ["one", "other"]
  x_by_floats : Tx K mg "by_floats" "by_floats" s_by_floats ["word", "one", "other"]
  x_arith : Tx K mg "arith" "arith" s_arith ["word", "one", "other"]
  x_wrapped : Tx K mg "wrapped" "wrapped" s_wrapped ["number"]
/-! ### numbers -/
inductive Nm where
  | int (i : Int)
  | fl (f : Fl)
def NmAt (CF : Addr) (H : Hp) (x : V) : Nm → Prop
  | .int i => x = .int i ∧ bits i ≤ 70
  | .fl f => ∃ a, x = .ref a ∧ FlAt CF H a f ∧ f.ok
theorem NmAt.same {CF : Addr} {H H' : Hp} {x : V} : ∀ {n : Nm}, NmAt CF H x n → Same H H' → NmAt CF H' x n
  | .int _, h, _ => h
  | .fl _, ⟨a, e, h, o⟩, s => ⟨a, e, h.same s, o⟩
theorem bits_mul (a b : Int) : bits (a * b) ≤ bits a + bits b := by
  have := intBits_mul_le (x := a) (y := b) (m := Builtin.Int.intBits a) (n := Builtin.Int.intBits b) (Nat.le_refl _) (Nat.le_refl _)
  unfold bits
  omega
theorem bits_pow (k : Nat) : bits (2 ^ k) = k + 1 := bits_eq (Int.le_refl _) (by rw [Int.pow_succ]; have := pow_pos2 k; omega)
theorem ratT_bits {s t p : Int} (h : (Fl.fin s t p).ok) : bits (ratT s t p) ≤ 1200 := by
  obtain ⟨bs, bt, p1, p2, t0, tp⟩ := ok_bounds h
  unfold ratT
  split
  · have := bits_mul s t; omega
  · have h1 := bits_mul s (t * 2 ^ p.toNat)
    have h2 := bits_mul_pow t0 p.toNat
    omega
theorem ratB_bits {s t p : Int} (h : (Fl.fin s t p).ok) : bits (ratB p) ≤ 1200 := by
  obtain ⟨bs, bt, p1, p2, t0, tp⟩ := ok_bounds h
  unfold ratB
  split
  · rw [bits_pow]; omega
  · decide
theorem ratB_pos (p : Int) : 0 < ratB p := by
  unfold ratB
  split
  · exact pow_pos2 _
  · decide
section
variable {P : Program} {w : World} {K : PySem.W.Frag} {mg : Str → Option Value} {base : Heap} {CF : Addr}
theorem NmAt.says (T : All K mg CF) {H : Hp} {x : V} {n : Nm} (h : NmAt CF H x n) : ∃ pl fl, Says K CF H x pl false false fl ∧ (fl || ((pl || false) && !false)) = true ∧ (fl = match n with | .int _ => false | .fl _ => true) := by
  cases n with
  | int i =>
    obtain ⟨rfl, _⟩ := h
    exact ⟨true, false, says_int T, rfl, rfl⟩
  | fl f =>
    obtain ⟨a, rfl, ⟨dx, e⟩, _⟩ := h
    exact ⟨false, true, says_fl T e, rfl, rfl⟩
end
/-! ### the sum of two floats -/
def addM : Fl → Fl → Fl
  | .nan, _ => .nan
  | _, .nan => .nan
  | .inf s, .inf r => if s = r then .inf s else .nan
  | .inf s, .fin _ _ _ => .inf s
  | .fin _ _ _, .inf r => .inf r
  | .fin s t p, .fin r u q => if t = 0 ∧ u = 0 then .fin (if r > s then r else s) 0 0 else
    nearM (if ratT s t p * ratB q + ratT r u q * ratB p < 0 then -1 else 1) (if ratT s t p * ratB q + ratT r u q * ratB p < 0 then -(ratT s t p * ratB q + ratT r u q * ratB p) else ratT s t p * ratB q + ratT r u q * ratB p) (ratB p * ratB q)
theorem addM_ii (s r : Int) : addM (.inf s) (.inf r) = if s = r then .inf s else .nan := rfl
theorem addM_ff (s t p r u q : Int) : addM (.fin s t p) (.fin r u q) = if t = 0 ∧ u = 0 then .fin (if r > s then r else s) 0 0 else
    nearM (if ratT s t p * ratB q + ratT r u q * ratB p < 0 then -1 else 1) (if ratT s t p * ratB q + ratT r u q * ratB p < 0 then -(ratT s t p * ratB q + ratT r u q * ratB p) else ratT s t p * ratB q + ratT r u q * ratB p) (ratB p * ratB q) := rfl
theorem bits_abs (n : Int) : bits (if n < 0 then -n else n) = bits n := by
  unfold bits
  split
  · rw [show Builtin.Int.intBits (-n) = Builtin.Int.intBits n by simp [Builtin.Int.intBits]]
  · rfl
theorem bits_add {a b : Int} {k : Nat} (ha : bits a ≤ k) (hb : bits b ≤ k) : bits (a + b) ≤ ((k + 1 : Nat) : Int) := by
  have h1 := bits_le.1 ha
  have h2 := bits_le.1 hb
  refine bits_le.2 ?_
  have h3 : (a + b).natAbs ≤ a.natAbs + b.natAbs := Int.natAbs_add_le a b
  rw [Nat.pow_succ]
  omega
theorem ratT_b {s t p : Int} (h : (Fl.fin s t p).ok) : bits (ratT s t p) ≤ 1025 := by
  obtain ⟨bs, bt, p1, p2, t0, tp⟩ := ok_bounds h
  unfold ratT
  split
  · have := bits_mul s t; omega
  · have h1 := bits_mul s (t * 2 ^ p.toNat)
    have h2 := bits_mul_pow t0 p.toNat
    omega
theorem ratB_b {s t p : Int} (h : (Fl.fin s t p).ok) : bits (ratB p) ≤ 1075 := by
  obtain ⟨bs, bt, p1, p2, t0, tp⟩ := ok_bounds h
  unfold ratB
  split
  · rw [bits_pow]; omega
  · decide
theorem abs_nn (n : Int) : 0 ≤ (if n < 0 then -n else n) := by split <;> omega
theorem sgn_pm (n : Int) : (if n < 0 then (-1 : Int) else 1) = 1 ∨ (if n < 0 then (-1 : Int) else 1) = -1 := by
  split
  · exact .inr rfl
  · exact .inl rfl
theorem top_bits {s t p r u q : Int} (h : (Fl.fin s t p).ok) (k : (Fl.fin r u q).ok) : bits (ratT s t p * ratB q + ratT r u q * ratB p) ≤ 2150 := by
  have h1 := bits_mul (ratT s t p) (ratB q)
  have h2 := bits_mul (ratT r u q) (ratB p)
  have := ratT_b h
  have := ratB_b h
  have := ratT_b k
  have := ratB_b k
  have := bits_add (a := ratT s t p * ratB q) (b := ratT r u q * ratB p) (k := 2100) (by omega) (by omega)
  omega
theorem bot_bits {s t p r u q : Int} (h : (Fl.fin s t p).ok) (k : (Fl.fin r u q).ok) : bits (ratB p * ratB q) ≤ 2150 := by
  have h1 := bits_mul (ratB p) (ratB q)
  have := ratB_b h
  have := ratB_b k
  omega
theorem nearM_ok {s t b : Int} (hs : s = 1 ∨ s = -1) (ht : 0 ≤ t) (hb : 0 < b) : (nearM s t b).ok := by
  unfold nearM
  by_cases z : t = 0
  · rw [if_pos z]
    exact ⟨hs, by decide, by decide, fun _ => rfl, fun h => absurd rfl h⟩
  · rw [if_neg z]
    by_cases c : 1024 < bits (wh t b) + p2 t b
    · rw [if_pos c]
      exact hs
    · rw [if_neg c]
      exact Arg.ok (tv := .int (wh t b)) (p := p2 t b) (.inl ⟨wh t b, rfl, wh_nn ht hb, hs, wh_fits ht hb (Int.not_lt.mp c), rfl⟩)
theorem addM_ok {f g : Fl} (hf : f.ok) (hg : g.ok) : (addM f g).ok := by
  cases f with
  | nan => exact trivial
  | inf s =>
    cases g with
    | nan => exact trivial
    | inf r =>
      rw [addM_ii]
      split
      · exact hf
      · exact trivial
    | fin r u q => exact hf
  | fin s t p =>
    cases g with
    | nan => exact trivial
    | inf r => exact hg
    | fin r u q =>
      rw [addM_ff]
      split
      · obtain ⟨h1, _⟩ := hf
        obtain ⟨h2, _⟩ := hg
        refine ⟨?_, by decide, by decide, fun _ => rfl, fun h => absurd rfl h⟩
        split <;> assumption
      · exact nearM_ok (sgn_pm _) (abs_nn _) (Int.mul_pos (ratB_pos p) (ratB_pos q))
section
variable {P : Program} {w : World} {K : PySem.W.Frag} {mg : Str → Option Value} {base : Heap} {CF : Addr}
def spNan (CF : Addr) : Sp := fun vs H Q _ => vs = [] ∧ NewF CF .nan H Q
theorem sc_nan : FnScope [] [] (defScope s_nan) := ⟨rfl, rfl, rfl, by decide +kernel, rfl, by decide +kernel, by decide +kernel⟩
theorem ok_nan (T : AllN K mg CF) (k_Float_init : KnC P w K mg base CX0 2 "Float" CF ["self", "sign", "top", "power"] (spInit CF)) : Kn P w K mg base CX0 4 "nan" [] (spNan CF) := by
  refine T.x_nan.kn fun f fd F => ?_
  refine F.ok sc_nan (fun vs H Q E h => ?_) (fun cdv A outer s H vs Q E hr h => ?_)
  · obtain ⟨rfl, _⟩ := h
    rfl
  · obtain ⟨rfl, q⟩ := h
    refine ⟨_, (pss_one (ps_ret (pkC k_Float_init hr (pa_cons pe_int (pa_cons pe_str (pa_cons pe_int pa_nil)))))), ?_⟩
    repeat walk_at "rd"
    exact u_Float (.inr (.inr ⟨rfl, rfl, rfl, rfl⟩)) fun x H' s1 n1 h1 => q x H' s1 n1 h1
/-- added(f, g), no nan among them -/
def spAdded (CF : Addr) : Sp := fun vs H Q _ => ∃ a b f g, vs = [.ref a, .ref b] ∧ FlAt CF H a f ∧ FlAt CF H b g ∧ f.ok ∧ g.ok ∧ f ≠ .nan ∧ g ≠ .nan ∧ ∀ x H', Same H H' → FlAt CF H' x (addM f g) → Q (.ref x) H'
theorem s_inf {a : Str} (h : ¬ a = "inf" := by decide +kernel) : ¬ V.str a = V.str "inf" := fun z => h (V.str.inj z)
theorem sc_added : FnScope ["one", "other", "first", "second", "top"] ["one", "other"] (defScope s_added) := ⟨rfl, rfl, rfl, by decide +kernel, rfl, by decide +kernel, by decide +kernel⟩
theorem ok_added (T : AllN K mg CF) (k_nan : Kn P w K mg base CX0 4 "nan" [] (spNan CF)) (k_Float_init : KnC P w K mg base CX0 2 "Float" CF ["self", "sign", "top", "power"] (spInit CF)) (k_Float_ratio : KnM P w K mg base CX0 1 CF "ratio" ["self"] (spRatio CF))
    (k_sign_of : Kn P w K mg base CX0 1 "sign_of" ["is_negative"] spSign) (k_nearest : Kn P w K mg base CX0 5 "nearest" ["sign", "top", "bottom"] (spNear CF)) : Kn P w K mg base CX0 6 "added" ["one", "other"] (spAdded CF) := by
  refine T.x_added.kn fun f fd F => ?_
  refine F.ok sc_added (fun vs H Q E h => ?_) (fun cdv A outer s H vs Q E hr h => ?_)
  · obtain ⟨a, b, f, g, rfl, _⟩ := h
    rfl
  · obtain ⟨a, b, f, g, rfl, hf, hg, okf, okg, nf, ng, q⟩ := h
    refine ⟨_, (pss_cons (ps_if (PW.pt (pw_or (pt_cmpR op_eq (pe_fld (pv 0) rfl) pe_str (nomark _)) (pw_or1 (pt_cmpR op_eq (pe_fld (pv 1) rfl) pe_str (nomark _))))) (pss_cons (ps_if (PW.pt (pw_and (pt_cmpR op_eq (pe_fld (pv 0) rfl) (pe_fld (pv 1) rfl) (nomark _)) (pw_and1 (pt_cmpR op_ne (pe_fld (pv 0) rfl) (pe_fld (pv 1) rfl) (nomark _))))) (pss_one (ps_ret (pk0 k_nan hr))) pss_nil)
      (pss_one (ps_ret (pe_ifExp (pt_cmpR op_eq (pe_fld (pv 0) rfl) pe_str (nomark _)) (pv 0) (pv 1))))) pss_nil)
      (pss_cons (ps_if (PW.pt (pw_and (pt_cmpR op_eq (pe_fld (pv 0) rfl) pe_int (nomark _)) (pw_and1 (pt_cmpR op_eq (pe_fld (pv 1) rfl) pe_int (nomark _))))) (pss_one (ps_ret (pkC k_Float_init hr (pa_cons (pe_callB (call_max2 rfl) (by rfl) T.b_max boot_max (pa_cons (pe_fld (pv 0) rfl) (pa_cons (pe_fld (pv 1) rfl) pa_nil))) (pa_cons pe_int (pa_cons pe_int pa_nil)))))) pss_nil)
      (pss_cons (ps_par (by rfl) sc_added.nd (i := 2) (j := 3) rfl rfl (by decide) rfl rfl (pa_cons (pkM0 k_Float_ratio T.l_Float hr (pv 0) rfl) (pa_cons (pkM0 k_Float_ratio T.l_Float hr (pv 1) rfl) pa_nil)) (by rfl))
      (pss_cons (ps_set (i := 4) sc_added.nd rfl (Or.inl rfl) (pe_op op_add (pe_op op_mulX (pe_ix ix_tup (pv 2) pe_int (fun _ _ => rfl)) (pe_ix ix_tup (pv 3) pe_int (fun _ _ => rfl))) (pe_op op_mulX (pe_ix ix_tup (pv 3) pe_int (fun _ _ => rfl)) (pe_ix ix_tup (pv 2) pe_int (fun _ _ => rfl)))))
      (pss_one (ps_ret (pk k_nearest hr (pa_cons (pk k_sign_of hr (pa_cons (pe_cmpR op_lt (pv 4) pe_int (nomark _)) pa_nil)) (pa_cons (pe_callB call_abs (by rfl) T.b_abs boot_abs (pa_cons (pv 4) pa_nil)) (pa_cons (pe_op op_mulX (pe_ix ix_tup (pv 2) pe_int (fun _ _ => rfl)) (pe_ix ix_tup (pv 3) pe_int (fun _ _ => rfl))) pa_nil)))))))))), ?_⟩
    obtain ⟨dx, h1⟩ := id hf
    obtain ⟨dy, h2⟩ := id hg
    repeat walk_at "rd"
    refine w_fldI h1 T.l_Float T.n_top (flds_t _ _ _) ?_
    repeat walk_at "rd"
    cases f with
    | nan => exact absurd rfl nf
    | inf s =>
      refine w_eqS ?_
      repeat walk_at "rd"
      refine iD (fun _ => ?_) (fun z => absurd rfl z)
      refine iT ?_
      repeat walk_at "rd"
      refine w_fldI h1 T.l_Float T.n_top (flds_t _ _ _) ?_
      repeat walk_at "rd"
      refine w_fldI h2 T.l_Float T.n_top (flds_t _ _ _) ?_
      cases g with
      | nan => exact absurd rfl ng
      | inf r =>
        refine w_eqS ?_
        repeat walk_at "rd"
        refine iD (fun _ => ?_) (fun z => absurd rfl z)
        repeat walk_at "rd"
        refine w_fldI h1 T.l_Float T.n_sign (flds_s _ _ _) ?_
        repeat walk_at "rd"
        refine w_fldI h2 T.l_Float T.n_sign (flds_s _ _ _) ?_
        refine w_neI ?_
        repeat walk_at "rd"
        rw [addM_ii] at q
        refine iN (fun z => ?_) (fun z => ?_)
        · rw [if_neg (show ¬ s = r from z)] at q
          repeat walk_at "rd"
          exact ⟨rfl, fun x H' s1 n1 h1 => q x H' s1 h1⟩
        · rw [if_pos (show s = r from z)] at q
          repeat walk_at "rd"
          refine w_fldI h1 T.l_Float T.n_top (flds_t _ _ _) ?_
          repeat walk_at "rd"
          refine w_eqS ?_
          repeat walk_at "rd"
          refine iD (fun _ => ?_) (fun z => absurd rfl z)
          repeat walk_at "rd"
          exact q a H (Same.refl H) hf
      | fin r u p2 =>
        refine w_eqSI ?_
        repeat walk_at "rd"
        refine w_fldI h1 T.l_Float T.n_top (flds_t _ _ _) ?_
        repeat walk_at "rd"
        refine w_eqS ?_
        repeat walk_at "rd"
        refine iD (fun _ => ?_) (fun z => absurd rfl z)
        repeat walk_at "rd"
        exact q a H (Same.refl H) hf
    | fin s t p =>
      refine w_eqIS ?_
      repeat walk_at "rd"
      refine w_fldI h2 T.l_Float T.n_top (flds_t _ _ _) ?_
      repeat walk_at "rd"
      cases g with
      | nan => exact absurd rfl ng
      | inf r =>
        refine w_eqS ?_
        repeat walk_at "rd"
        refine iD (fun _ => ?_) (fun z => absurd rfl z)
        repeat walk_at "rd"
        refine w_fldI h1 T.l_Float T.n_top (flds_t _ _ _) ?_
        repeat walk_at "rd"
        refine w_fldI h2 T.l_Float T.n_top (flds_t _ _ _) ?_
        refine w_eqIS ?_
        repeat walk_at "rd"
        refine w_fldI h1 T.l_Float T.n_top (flds_t _ _ _) ?_
        repeat walk_at "rd"
        refine w_eqIS ?_
        repeat walk_at "rd"
        exact q b H (Same.refl H) hg
      | fin r u p2 =>
        refine w_eqIS ?_
        repeat walk_at "rd"
        refine w_fldI h1 T.l_Float T.n_top (flds_t _ _ _) ?_
        repeat walk_at "rd"
        refine w_eqI ?_
        repeat walk_at "rd"
        rw [addM_ff] at q
        have tb := top_bits okf okg
        have bb := bot_bits okf okg
        have bp := Int.mul_pos (ratB_pos p) (ratB_pos p2)
        refine iD (fun z1 => ?_) (fun z1 => ?_)
        · repeat walk_at "rd"
          refine w_fldI h2 T.l_Float T.n_top (flds_t _ _ _) ?_
          repeat walk_at "rd"
          refine w_eqI ?_
          repeat walk_at "rd"
          refine iD (fun z2 => ?_) (fun z2 => ?_)
          · rw [if_pos (show t = 0 ∧ u = 0 from ⟨z1, z2⟩)] at q
            repeat walk_at "rd"
            refine w_fldI h1 T.l_Float T.n_sign (flds_s _ _ _) ?_
            repeat walk_at "rd"
            refine w_fldI h2 T.l_Float T.n_sign (flds_s _ _ _) ?_
            repeat walk_at "rd"
            refine u_Float (.inl ⟨0, rfl, by decide, ?_, by rw [red_zero]; decide, rfl⟩) fun x H' s1 n1 k1 => ?_
            · obtain ⟨g1, _⟩ := okf
              obtain ⟨g2, _⟩ := okg
              show (if r > s then r else s) = 1 ∨ (if r > s then r else s) = -1
              split <;> assumption
            · rw [red_zero] at k1
              exact q x H' s1 k1
          · rw [if_neg (show ¬ (t = 0 ∧ u = 0) from fun z => z2 z.2)] at q
            repeat walk_at "rd"
            refine w_methI h1 (lk_rat _ _ _) ?_
            repeat walk_at "rd"
            refine ⟨a, s, t, p, rfl, hf, okf, fun q1 H1 s1 n1 e1 => ?_⟩
            repeat walk_at "rd"
            refine w_methI (s1 _ _ h2) (lk_rat _ _ _) ?_
            repeat walk_at "rd"
            refine ⟨b, r, u, p2, rfl, hg.same s1, okg, fun q2 H2 s2 n2 e2 => ?_⟩
            have e1 := s2 _ _ e1
            repeat walk_at "rd"
            refine w_ixT e1 (v := .int (ratT s t p)) rfl ?_
            repeat walk_at "rd"
            refine w_ixT e2 (v := .int (ratB p2)) rfl ?_
            refine w_I (cmulx (i := ratT s t p) (j := ratB p2) (by have := ratT_b okf; omega) (by have := ratB_b okg; omega)) ?_
            repeat walk_at "rd"
            refine w_ixT e2 (v := .int (ratT r u p2)) rfl ?_
            repeat walk_at "rd"
            refine w_ixT e1 (v := .int (ratB p)) rfl ?_
            refine w_I (cmulx (i := ratT r u p2) (j := ratB p) (by have := ratT_b okg; omega) (by have := ratB_b okf; omega)) ?_
            repeat walk_at "rd"
            refine ⟨_, rfl, ?_⟩
            repeat walk_at "rd"
            refine w_ixT e1 (v := .int (ratB p)) rfl ?_
            repeat walk_at "rd"
            refine w_ixT e2 (v := .int (ratB p2)) rfl ?_
            refine w_I (cmulx (i := ratB p) (j := ratB p2) (by have := ratB_b okf; omega) (by have := ratB_b okg; omega)) ?_
            repeat walk_at "rd"
            have es : (if decide (ratT s t p * ratB p2 + ratT r u p2 * ratB p < 0) = true then (-1 : Int) else 1) = if ratT s t p * ratB p2 + ratT r u p2 * ratB p < 0 then -1 else 1 := by simp only [decide_eq_true_eq]
            rw [es]
            exact ⟨_, _, _, rfl, sgn_pm _, abs_nn _, bp, by rw [bits_abs]; omega, by omega, fun x H' s3 n3 h3 => q x H' (s1.trans (s2.trans s3)) h3⟩
        · rw [if_neg (show ¬ (t = 0 ∧ u = 0) from fun z => z1 z.1)] at q
          repeat walk_at "rd"
          refine w_methI h1 (lk_rat _ _ _) ?_
          repeat walk_at "rd"
          refine ⟨a, s, t, p, rfl, hf, okf, fun q1 H1 s1 n1 e1 => ?_⟩
          repeat walk_at "rd"
          refine w_methI (s1 _ _ h2) (lk_rat _ _ _) ?_
          repeat walk_at "rd"
          refine ⟨b, r, u, p2, rfl, hg.same s1, okg, fun q2 H2 s2 n2 e2 => ?_⟩
          have e1 := s2 _ _ e1
          repeat walk_at "rd"
          refine w_ixT e1 (v := .int (ratT s t p)) rfl ?_
          repeat walk_at "rd"
          refine w_ixT e2 (v := .int (ratB p2)) rfl ?_
          refine w_I (cmulx (i := ratT s t p) (j := ratB p2) (by have := ratT_b okf; omega) (by have := ratB_b okg; omega)) ?_
          repeat walk_at "rd"
          refine w_ixT e2 (v := .int (ratT r u p2)) rfl ?_
          repeat walk_at "rd"
          refine w_ixT e1 (v := .int (ratB p)) rfl ?_
          refine w_I (cmulx (i := ratT r u p2) (j := ratB p) (by have := ratT_b okg; omega) (by have := ratB_b okf; omega)) ?_
          repeat walk_at "rd"
          refine ⟨_, rfl, ?_⟩
          repeat walk_at "rd"
          refine w_ixT e1 (v := .int (ratB p)) rfl ?_
          repeat walk_at "rd"
          refine w_ixT e2 (v := .int (ratB p2)) rfl ?_
          refine w_I (cmulx (i := ratB p) (j := ratB p2) (by have := ratB_b okf; omega) (by have := ratB_b okg; omega)) ?_
          repeat walk_at "rd"
          have es : (if decide (ratT s t p * ratB p2 + ratT r u p2 * ratB p < 0) = true then (-1 : Int) else 1) = if ratT s t p * ratB p2 + ratT r u p2 * ratB p < 0 then -1 else 1 := by simp only [decide_eq_true_eq]
          rw [es]
          exact ⟨_, _, _, rfl, sgn_pm _, abs_nn _, bp, by rw [bits_abs]; omega, by omega, fun x H' s3 n3 h3 => q x H' (s1.trans (s2.trans s3)) h3⟩
end
end Nu

set_option Elab.async false
set_option linter.all false
set_option maxRecDepth 100000
set_option autoImplicit false
set_option maxHeartbeats 4000000
namespace Nu
open PySem PySem.Spec PyProof.Rows L2 Rd
local macro_rules | `(tactic| walk_at "hp") => `(tactic| first | assumption | (refine same_get ?sm ?_; (case sm => assumption); walk_at "hp"))
local macro_rules | `(tactic| walk_at "rd") => `(tactic| first
  | with_reducible refine w_nx ?_
  | with_reducible refine w_rt ?_
  | with_reducible refine w_bk ?_
  | with_reducible refine w_ct ?_
  | with_reducible refine w_seq ?_
  | with_reducible refine w_next ?_
  | with_reducible refine w_ret ?_
  | with_reducible refine w_ifS ?_
  | with_reducible refine w_asg ?_
  | with_reducible refine w_name ?_
  | with_reducible refine w_par ?_
  | with_reducible refine w_parI ?_
  | with_reducible refine w_ii ?_
  | with_reducible refine w_i1 ?_
  | with_reducible refine w_drop ?_
  | with_reducible refine w_sFld ?_
  | ((with_reducible refine' w_var ?rdh ?_); (case rdh => exact rfl))
  | with_reducible refine w_c ?_
  | with_reducible refine w_op ?_
  | with_reducible refine w_un ?_
  | with_reducible refine w_I0 ?_
  | with_reducible refine w_U ?_
  | with_reducible refine w_bits ?_
  | with_reducible refine w_bitsI ?_
  | with_reducible refine w_tup ?_
  | with_reducible refine w_lst ?_
  | with_reducible refine w_nil ?_
  | with_reducible refine w_cons ?_
  | with_reducible refine w_fld ?_
  | with_reducible refine w_call ?_
  | with_reducible refine w_make ?_
  | with_reducible refine w_gsub ?_
  | with_reducible refine w_int1 ?_
  | with_reducible refine w_intB ?_
  | with_reducible refine w_for ?_
  | with_reducible refine w_rng1 ?_
  | with_reducible refine w_iList ?_
  | with_reducible refine w_iTup ?_
  | with_reducible refine w_makeD ?_
  | with_reducible refine w_nn ?_
  | with_reducible refine w_subB ?_
  | with_reducible refine w_meth ?_
  | with_reducible refine w_cb ?_
  | with_reducible refine w_test ?_
  | with_reducible refine w_B ?_
  | with_reducible refine w_bl ?_
  | with_reducible refine w_andV ?_
  | with_reducible refine w_orV ?_
  | with_reducible refine w_notV ?_
  | with_reducible refine w_and ?_
  | with_reducible refine w_or ?_
  | with_reducible refine w_not ?_
  | with_reducible refine w_if ?_
  | with_reducible refine w_gnil ?_
  | with_reducible refine w_gcons ?_
  | with_reducible refine iT ?_
  | with_reducible refine iF ?_
  | with_reducible refine w_eqI ?_
  | with_reducible refine w_neI ?_
  | with_reducible refine w_eqS ?_
  | with_reducible refine w_eqIS ?_
  | with_reducible refine w_eqSI ?_)

section
variable {P : Program} {w : World} {K : PySem.W.Frag} {mg : Str → Option Value} {base : Heap} {CF : Addr}
/-! ### == of floats -/
def fdat : V → PyData
  | .int t => .int t
  | .str x => .str x
  | _ => .none
def fall (f : Fl) : PyData := .tuple [.int f.s, fdat f.t, .int f.p]
def feq (f g : Fl) : Bool := PyData.eqv (fall f) (fall g)
theorem feq_self (f : Fl) : feq f f = true := by
  cases f <;> simp [feq, fall, fdat, Fl.s, Fl.t, Fl.p, PyData.eqv, PyData.eqvAll]
theorem fdat_dp (f : Fl) (H : Hp) : Dp K H f.t (fdat f.t) := by
  cases f with
  | fin s t p => exact .int t
  | inf s => exact .str _
  | nan => exact .str _
theorem fall_dp {f : Fl} {H : Hp} {a : Addr} (h : H a = some (.tup [.int f.s, f.t, .int f.p])) : Dp K H (.ref a) (fall f) :=
  .tup (SqT.of h) (.cons (.int _) (.cons (fdat_dp f H) (.cons (.int _) .nil)))
theorem fall_shaped (f : Fl) : SeqAt.shaped (fall f) = true := by
  have e1 : PyData.canLay0 (.str "inf") = true := by decide +kernel
  have e2 : PyData.canLay0 (.str "nan") = true := by decide +kernel
  have e3 : ∀ i : Int, PyData.canLay0 (.int i) = true := fun i => by simp [PyData.canLay0]
  have e4 : ∀ a b c : PyData, PyData.canLay0 a = true → PyData.canLay0 b = true → PyData.canLay0 c = true → PyData.canLay0 (.tuple [a, b, c]) = true := fun a b c h1 h2 h3 => by simp [PyData.canLay0, PyData.canLayAll0, h1, h2, h3]
  have e5 : PyData.canLay0 (fall f) = true := by
    cases f with
    | fin s t p => exact e4 _ _ _ (e3 _) (e3 _) (e3 _)
    | inf s => exact e4 _ _ _ (e3 _) e1 (e3 _)
    | nan => exact e4 _ _ _ (e3 _) e2 (e3 _)
  have e6 : (fall f).depth ≤ 64 := by
    cases f <;> simp [fall, fdat, Fl.t, PyData.depth, PyData.depthAll]
  unfold SeqAt.shaped
  rw [e5, decide_eq_true e6]
  rfl
def spFEq (CF : Addr) : Sp := fun vs H Q _ => ∃ a b f g, vs = [.ref a, .ref b] ∧ FlAt CF H a f ∧ FlAt CF H b g ∧ ∀ H', Same H H' → Q (.bl (feq f g)) H'
theorem sc_Float_eq : FnScope ["self", "other"] ["self", "other"] (defScope s_Float_eq) := ⟨rfl, rfl, rfl, by decide +kernel, rfl, by decide +kernel, by decide +kernel⟩
theorem ok_eq (T : AllN K mg CF) : KnM P w K mg base CX0 1 CF "__eq__" ["self", "other"] (spFEq CF) := by
  refine T.x_eq.kn fun f fd F => ?_
  refine F.ok sc_Float_eq (fun vs H Q E h => ?_) (fun cdv A outer s H vs Q E hr h => ?_)
  · obtain ⟨a, b, f, g, rfl, _⟩ := h
    rfl
  · obtain ⟨a, b, f, g, rfl, hf, hg, q⟩ := h
    refine ⟨_, (pss_cons (ps_if (pt_not (pt_val (pe_callB call_isi (by rfl) T.b_isinstance boot_isinstance (pa_cons (pv 1) (pa_cons (pg "Float" T.g_Float (rref _)) pa_nil))))) (pss_one ps_never) pss_nil)
      (pss_one (ps_ret (pe_cmpR (op_eqD hr.units) (pe_tup (pa_cons (pe_fld (pv 0) rfl) (pa_cons (pe_fld (pv 0) rfl) (pa_cons (pe_fld (pv 0) rfl) pa_nil)))) (pe_tup (pa_cons (pe_fld (pv 1) rfl) (pa_cons (pe_fld (pv 1) rfl) (pa_cons (pe_fld (pv 1) rfl) pa_nil)))) (nomark _))))), ?_⟩
    obtain ⟨dx, h1⟩ := id hf
    obtain ⟨dy, h2⟩ := id hg
    obtain ⟨t, ty, i1, i2, i3, i4⟩ := says_fl T.toAll h2
    repeat walk_at "rd"
    refine w_isi (.own CF) ty i4 ?_
    repeat walk_at "rd"
    refine iF ?_
    repeat walk_at "rd"
    refine w_fldI h1 T.l_Float T.n_sign (flds_s _ _ _) ?_
    repeat walk_at "rd"
    refine w_fldI h1 T.l_Float T.n_top (flds_t _ _ _) ?_
    repeat walk_at "rd"
    refine w_fldI h1 T.l_Float T.n_power (flds_p _ _ _) ?_
    repeat walk_at "rd"
    refine w_tup3 fun a1 H1 s1 n1 e1 => ?_
    repeat walk_at "rd"
    refine w_fldI (s1 _ _ h2) T.l_Float T.n_sign (flds_s _ _ _) ?_
    repeat walk_at "rd"
    refine w_fldI (s1 _ _ h2) T.l_Float T.n_top (flds_t _ _ _) ?_
    repeat walk_at "rd"
    refine w_fldI (s1 _ _ h2) T.l_Float T.n_power (flds_p _ _ _) ?_
    repeat walk_at "rd"
    refine w_tup3 fun a2 H2 s2 n2 e2 => ?_
    exact w_eqD (fall_dp (s2 _ _ e1)) (fall_dp e2) (fall_shaped f) (fall_shaped g) (q H2 (s1.trans s2))
theorem u_eqF {a b : Addr} {f : Fl} {g : Bool → Bool} {H : Hp} {Q : VK} (ha : FlAt CF H a f) (hb : FlAt CF H b f) (q : ∀ H', Same H H' → Q (.bl (g true)) H') : rOwn CF g (spFEq CF) (.ref a) (.ref b) H Q := by
  obtain ⟨dx, h1⟩ := id ha
  obtain ⟨dy, h2⟩ := id hb
  exact w_own h1 h2 ⟨a, b, f, f, rfl, ha, hb, fun H' s => ⟨_, rfl, by rw [feq_self]; exact q H' s⟩⟩
end
end Nu

set_option Elab.async false
set_option linter.all false
set_option maxRecDepth 100000
set_option autoImplicit false
set_option maxHeartbeats 4000000
namespace Rd
theorem iA {c : Prop} [Decidable c] {A B : Prop} (h : A) (h2 : ¬ c → A → B) : if decide c = true then A else B := by
  by_cases k : c
  · rw [decide_eq_true k]; exact iT h
  · rw [decide_eq_false k]; exact iF (h2 k h)
theorem iAb {c : Bool} {A B : Prop} (h : A) (h2 : c = false → A → B) : if c = true then A else B := by
  cases c with
  | true => exact iT h
  | false => exact iF (h2 rfl h)
end Rd
namespace Nu
open PySem PySem.Spec PyProof.Rows L2 Rd
local macro_rules | `(tactic| walk_at "hp") => `(tactic| first | assumption | (refine same_get ?sm ?_; (case sm => assumption); walk_at "hp"))
local macro_rules | `(tactic| walk_at "rd") => `(tactic| first
  | with_reducible refine w_nx ?_
  | with_reducible refine w_rt ?_
  | with_reducible refine w_bk ?_
  | with_reducible refine w_ct ?_
  | with_reducible refine w_seq ?_
  | with_reducible refine w_next ?_
  | with_reducible refine w_ret ?_
  | with_reducible refine w_ifS ?_
  | with_reducible refine w_asg ?_
  | with_reducible refine w_name ?_
  | with_reducible refine w_par ?_
  | with_reducible refine w_parI ?_
  | with_reducible refine w_ii ?_
  | with_reducible refine w_i1 ?_
  | with_reducible refine w_drop ?_
  | with_reducible refine w_sFld ?_
  | ((with_reducible refine' w_var ?rdh ?_); (case rdh => exact rfl))
  | with_reducible refine w_c ?_
  | with_reducible refine w_op ?_
  | with_reducible refine w_un ?_
  | with_reducible refine w_I0 ?_
  | with_reducible refine w_U ?_
  | with_reducible refine w_bits ?_
  | with_reducible refine w_bitsI ?_
  | with_reducible refine w_tup ?_
  | with_reducible refine w_lst ?_
  | with_reducible refine w_nil ?_
  | with_reducible refine w_cons ?_
  | with_reducible refine w_fld ?_
  | with_reducible refine w_call ?_
  | with_reducible refine w_make ?_
  | with_reducible refine w_gsub ?_
  | with_reducible refine w_int1 ?_
  | with_reducible refine w_intB ?_
  | with_reducible refine w_for ?_
  | with_reducible refine w_rng1 ?_
  | with_reducible refine w_iList ?_
  | with_reducible refine w_iTup ?_
  | with_reducible refine w_makeD ?_
  | with_reducible refine w_nn ?_
  | with_reducible refine w_subB ?_
  | with_reducible refine w_meth ?_
  | with_reducible refine w_cb ?_
  | with_reducible refine w_test ?_
  | with_reducible refine w_B ?_
  | with_reducible refine w_bl ?_
  | with_reducible refine w_andV ?_
  | with_reducible refine w_orV ?_
  | with_reducible refine w_notV ?_
  | with_reducible refine w_and ?_
  | with_reducible refine w_or ?_
  | with_reducible refine w_not ?_
  | with_reducible refine w_if ?_
  | with_reducible refine w_gnil ?_
  | with_reducible refine w_gcons ?_
  | with_reducible refine iT ?_
  | with_reducible refine iF ?_
  | with_reducible refine w_eqI ?_
  | with_reducible refine w_neI ?_
  | with_reducible refine w_eqS ?_
  | with_reducible refine w_eqIS ?_
  | with_reducible refine w_eqSI ?_)

def isNan : Fl → Bool
  | .nan => true
  | _ => false
def isInf : Fl → Bool
  | .inf _ => true
  | _ => false
def isZero : Fl → Bool
  | .fin _ t _ => decide (t = 0)
  | _ => false
theorem Fl.flat (f : Fl) : flatV f.t = true := by cases f <;> rfl
theorem nan_in1 (f : Fl) : eqV f.t (.str "nan") = isNan f := by
  cases f with
  | fin s t p => rfl
  | inf s => show eqV (.str "inf") (.str "nan") = false; decide +kernel
  | nan => decide +kernel
theorem zero_in1 (f : Fl) : eqV f.t (.int 0) = isZero f := by
  cases f with
  | fin s t p => rfl
  | inf s => rfl
  | nan => rfl
theorem not_nan {f : Fl} (h : isNan f = false) : f ≠ .nan := fun e => by
  rw [e] at h
  cases h
theorem nan_no {f : Fl} (h : f ≠ .nan) : isNan f = false := by cases f <;> first | rfl | exact absurd rfl h
theorem is_fin {f : Fl} (h1 : isNan f = false) (h2 : isInf f = false) : ∃ s t p, f = .fin s t p := by
  cases f with
  | fin s t p => exact ⟨s, t, p, rfl⟩
  | inf s => cases h2
  | nan => cases h1
theorem w_inf {f : Fl} {H : Hp} {Q : VK} (q : Q (.bl (isInf f)) H) : rEq f.t (.str "inf") H Q := by
  cases f with
  | fin s t p => exact w_eqIS q
  | inf s => refine w_eqS ?_; rw [decide_eq_true rfl]; exact q
  | nan => refine w_eqS ?_; rw [decide_eq_false (by decide +kernel)]; exact q
theorem w_nan {f : Fl} {H : Hp} {Q : VK} (q : Q (.bl (isNan f)) H) : rEq f.t (.str "nan") H Q := by
  cases f with
  | fin s t p => exact w_eqIS q
  | nan => refine w_eqS ?_; rw [decide_eq_true rfl]; exact q
  | inf s => refine w_eqS ?_; rw [decide_eq_false (by decide +kernel)]; exact q
theorem w_zero {f : Fl} {H : Hp} {Q : VK} (q : Q (.bl (isZero f)) H) : rEq f.t (.int 0) H Q := by
  cases f with
  | fin s t p => exact w_eqI q
  | inf s => exact w_eqSI q
  | nan => exact w_eqSI q
theorem s_pm {f : Fl} (h : f.ok) : f.s = 1 ∨ f.s = -1 := by
  cases f with
  | fin s t p => exact h.1
  | inf s => exact h
  | nan => exact .inl rfl
theorem pm_mul {a b : Int} (h1 : a = 1 ∨ a = -1) (h2 : b = 1 ∨ b = -1) : a * b = 1 ∨ a * b = -1 := by
  rcases h1 with rfl | rfl <;> rcases h2 with rfl | rfl <;> decide
/-! ### what is reckoned -/
def absI (n : Int) : Int := if n < 0 then -n else n
def mulM (f g : Fl) : Fl := if (isNan f || isNan g) = true then .nan else if (isInf f || isInf g) = true then (if (isZero f || isZero g) = true then .nan else .inf (f.s * g.s)) else
  match f, g with
  | .fin s t p, .fin r u q => nearM (s * r) (absI (ratT s t p * ratT r u q)) (ratB p * ratB q)
  | _, _ => .nan
def divM (f g : Fl) : Fl := if (isNan f || isNan g) = true then .nan else if isInf f = true then (if isInf g = true then .nan else .inf (f.s * g.s)) else if isInf g = true then .fin (f.s * g.s) 0 0 else
  if isZero g = true then (if isZero f = true then .nan else .inf (f.s * g.s)) else
  match f, g with
  | .fin s t p, .fin r u q => nearM (s * r) (absI (ratT s t p * ratB q)) (absI (ratB p * ratT r u q))
  | _, _ => .nan
def negM : Fl → Fl
  | .nan => .nan
  | .inf s => .inf (0 - s)
  | .fin s t p => .fin (0 - s) t p
theorem neg_pm {s : Int} (h : s = 1 ∨ s = -1) : 0 - s = 1 ∨ 0 - s = -1 := by omega
theorem negM_ok {f : Fl} (h : f.ok) : (negM f).ok := by
  cases f with
  | nan => exact trivial
  | inf s => exact neg_pm h
  | fin s t p => exact ⟨neg_pm h.1, h.2⟩
theorem red_odd {t p : Int} (h0 : 0 ≤ t) (h : t % 2 = 1) : red t p = (t, p) := by
  obtain ⟨k, m, hm, e, r⟩ := red_spec (t := t) (by omega) p
  have k0 : k = 0 := by
    rcases Nat.eq_zero_or_pos k with z | z
    · exact z
    · obtain ⟨j, rfl⟩ : ∃ j, k = j + 1 := ⟨k - 1, by omega⟩
      rw [Int.pow_succ, Int.mul_assoc, Int.mul_left_comm] at e
      omega
  subst k0
  rw [r]
  simp at e ⊢
  omega
theorem red_ok {s t p : Int} (h : (Fl.fin s t p).ok) : red t p = (t, p) ∧ fitsB t p = true := by
  obtain ⟨_, t0, t1, hz, hn⟩ := h
  by_cases z : t = 0
  · subst z
    rw [hz rfl, red_zero]
    exact ⟨rfl, by decide⟩
  · obtain ⟨a, b, c⟩ := hn z
    refine ⟨red_odd t0 c, ?_⟩
    unfold fitsB
    rw [decide_eq_true t1, decide_eq_true a, decide_eq_true b]
    rfl
theorem negM_arg {f : Fl} (h : f.ok) (hn : f ≠ .nan) : Arg (0 - f.s) f.t f.p (negM f) := by
  cases f with
  | nan => exact absurd rfl hn
  | inf s => exact .inr (.inl ⟨rfl, rfl, neg_pm h, rfl⟩)
  | fin s t p =>
    obtain ⟨r, ft⟩ := red_ok h
    refine .inl ⟨t, rfl, h.2.1, neg_pm h.1, ?_, ?_⟩
    · show fitsB (red t p).1 (red t p).2 = true
      rw [r]; exact ft
    · show Fl.fin (0 - s) t p = .fin (0 - s) (red t p).1 (red t p).2
      rw [r]
theorem absI_nn (n : Int) : 0 ≤ absI n := abs_nn n
theorem absI_bits (n : Int) : bits (absI n) = bits n := bits_abs n
theorem ratT_ne {s t p : Int} (h : (Fl.fin s t p).ok) (ht : t ≠ 0) : ratT s t p ≠ 0 := by
  have h1 := h.1
  unfold ratT
  intro e
  split at e
  · rcases Int.mul_eq_zero.mp e with c | c <;> omega
  · rcases Int.mul_eq_zero.mp e with c | c
    · omega
    · rcases Int.mul_eq_zero.mp c with c | c
      · exact ht c
      · have := pow_pos2 p.toNat
        omega
theorem mulM_ok {f g : Fl} (hf : f.ok) (hg : g.ok) : (mulM f g).ok := by
  have pm := pm_mul (s_pm hf) (s_pm hg)
  unfold mulM
  split
  · exact trivial
  · split
    · split
      · exact trivial
      · exact pm
    · split
      · exact nearM_ok pm (absI_nn _) (Int.mul_pos (ratB_pos _) (ratB_pos _))
      · exact trivial
theorem div_pos {s t p r u q : Int} (hg : (Fl.fin r u q).ok) (hz : isZero (.fin r u q) = false) : 0 < absI (ratB p * ratT r u q) := by
  have h := absI_nn (ratB p * ratT r u q)
  have h2 : ratB p * ratT r u q ≠ 0 := fun e => by
    rcases Int.mul_eq_zero.mp e with c | c
    · have := ratB_pos p; omega
    · exact ratT_ne hg (of_decide_eq_false hz) c
  have : absI (ratB p * ratT r u q) ≠ 0 := by
    unfold absI
    split <;> omega
  omega
theorem divM_ok {f g : Fl} (hf : f.ok) (hg : g.ok) : (divM f g).ok := by
  have pm := pm_mul (s_pm hf) (s_pm hg)
  unfold divM
  split
  · exact trivial
  split
  · split
    · exact trivial
    · exact pm
  split
  · exact ⟨pm, by decide, by decide, fun _ => rfl, fun h => absurd rfl h⟩
  split
  · split
    · exact trivial
    · exact pm
  · rename_i z
    split
    · exact nearM_ok pm (absI_nn _) (div_pos (s := 0) (t := 0) hg (Bool.eq_false_iff.mpr z))
    · exact trivial
section
variable {P : Program} {w : World} {K : PySem.W.Frag} {mg : Str → Option Value} {base : Heap} {CF : Addr}
theorem u_nan {H : Hp} {Q : VK} {E : XK} (q : NewF CF .nan H Q) : spNan CF ([] ++ []) H Q E := ⟨rfl, q⟩
theorem u_inf {s : Int} {H : Hp} {Q : VK} {E : XK} (hs : s = 1 ∨ s = -1) (q : NewF CF (.inf s) H Q) : spInf CF ([V.int s] ++ []) H Q E := ⟨s, rfl, hs, q⟩
/-! ### products and quotients -/
def sp2 (CF : Addr) (m : Fl → Fl → Fl) : Sp := fun vs H Q _ => ∃ a b f g, vs = [.ref a, .ref b] ∧ FlAt CF H a f ∧ FlAt CF H b g ∧ f.ok ∧ g.ok ∧ f ≠ .nan ∧ g ≠ .nan ∧ ∀ x H', Same H H' → FlAt CF H' x (m f g) → Q (.ref x) H'
theorem sc_multiplied : FnScope ["one", "other", "sign", "first", "second"] ["one", "other"] (defScope s_multiplied) := ⟨rfl, rfl, rfl, by decide +kernel, rfl, by decide +kernel, by decide +kernel⟩
theorem ok_multiplied (T : AllN K mg CF) (k_nan : Kn P w K mg base CX0 4 "nan" [] (spNan CF)) (k_infinity : Kn P w K mg base CX0 4 "infinity" ["sign"] (spInf CF)) (k_Float_ratio : KnM P w K mg base CX0 1 CF "ratio" ["self"] (spRatio CF))
    (k_nearest : Kn P w K mg base CX0 5 "nearest" ["sign", "top", "bottom"] (spNear CF)) : Kn P w K mg base CX0 6 "multiplied" ["one", "other"] (sp2 CF mulM) := by
  refine T.x_multiplied.kn fun f fd F => ?_
  refine F.ok sc_multiplied (fun vs H Q E h => ?_) (fun cdv A outer s H vs Q E hr h => ?_)
  · obtain ⟨a, b, f, g, rfl, _⟩ := h
    rfl
  · obtain ⟨a, b, f, g, rfl, hf, hg, okf, okg, nf, ng, q⟩ := h
    refine ⟨_, (pss_cons (ps_set (i := 2) sc_multiplied.nd rfl (Or.inl rfl) (pe_op op_mulX (pe_fld (pv 0) rfl) (pe_fld (pv 1) rfl)))
      (pss_cons (ps_if (PW.pt (pw_or (pt_cmpR op_eq (pe_fld (pv 0) rfl) pe_str (nomark _)) (pw_or1 (pt_cmpR op_eq (pe_fld (pv 1) rfl) pe_str (nomark _))))) (pss_one (ps_ret (pe_ifExp (pt_cmpR op_in_seq pe_int (pe_tup (pa_cons (pe_fld (pv 0) rfl) (pa_cons (pe_fld (pv 1) rfl) pa_nil))) rfl) (pk0 k_nan hr) (pk k_infinity hr (pa_cons (pv 2) pa_nil))))) pss_nil)
      (pss_cons (ps_par (by rfl) sc_multiplied.nd (i := 3) (j := 4) rfl rfl (by decide) rfl rfl (pa_cons (pkM0 k_Float_ratio T.l_Float hr (pv 0) rfl) (pa_cons (pkM0 k_Float_ratio T.l_Float hr (pv 1) rfl) pa_nil)) (by rfl))
      (pss_one (ps_ret (pk k_nearest hr (pa_cons (pv 2) (pa_cons (pe_callB call_abs (by rfl) T.b_abs boot_abs (pa_cons (pe_op op_mulX (pe_ix ix_tup (pv 3) pe_int (fun _ _ => rfl)) (pe_ix ix_tup (pv 4) pe_int (fun _ _ => rfl))) pa_nil)) (pa_cons (pe_op op_mulX (pe_ix ix_tup (pv 3) pe_int (fun _ _ => rfl)) (pe_ix ix_tup (pv 4) pe_int (fun _ _ => rfl))) pa_nil))))))))), ?_⟩
    obtain ⟨dx, h1⟩ := id hf
    obtain ⟨dy, h2⟩ := id hg
    have pf := (s_pm okf)
    have pg := (s_pm okg)
    have hnn : (isNan f || isNan g) = false := by rw [nan_no nf, nan_no ng]; rfl
    repeat walk_at "rd"
    refine w_fldI h1 T.l_Float T.n_sign (flds_s _ _ _) ?_
    repeat walk_at "rd"
    refine w_fldI h2 T.l_Float T.n_sign (flds_s _ _ _) ?_
    refine w_I (cmulS (i := f.s) (j := g.s) (by omega) (by omega)) ?_
    repeat walk_at "rd"
    refine w_fldI h1 T.l_Float T.n_top (flds_t _ _ _) ?_
    repeat walk_at "rd"
    refine w_inf ?_
    repeat walk_at "rd"
    have far : (isInf f || isInf g) = true → ∀ (Q1 : VK), (∀ x H', Same H H' → FlAt CF H' x (mulM f g) → Q1 (.ref x) H') → tIf (tTest (tOp (rIn K false) (tC (.int 0)) (tTup (tCons (tFld K (tVar 0) "top") (tCons (tFld K (tVar 1) "top") tNil))))) (tCall (spNan CF) [] E0 tNil) (tCall (spInf CF) [] E0 (tCons (tVar 2) tNil)) [some (.ref a), some (.ref b), some (.int (f.s * g.s)), none, none] H Q1 := by
      intro hi Q1 q1
      repeat walk_at "rd"
      refine w_fldI h1 T.l_Float T.n_top (flds_t _ _ _) ?_
      repeat walk_at "rd"
      refine w_fldI h2 T.l_Float T.n_top (flds_t _ _ _) ?_
      repeat walk_at "rd"
      refine w_tup2 fun a1 H1 s1 n1 e1 => ?_
      refine w_in e1 rfl (by simp [Fl.flat]) ?_
      have ein : inV (.int 0) [f.t, g.t] = (isZero f || isZero g) := by
        unfold inV
        simp only [List.any_cons, List.any_nil, Bool.or_false, zero_in1]
      rw [ein]
      unfold mulM at q1
      rw [if_neg (by rw [hnn]; exact Bool.false_ne_true), if_pos hi] at q1
      repeat walk_at "rd"
      refine iB (fun z => ?_) (fun z => ?_)
      · rw [if_pos z] at q1
        repeat walk_at "rd"
        exact u_nan fun x H' s2 n2 k2 => q1 x H' (s1.trans s2) k2
      · rw [if_neg (by rw [z]; exact Bool.false_ne_true)] at q1
        repeat walk_at "rd"
        exact u_inf (pm_mul pf pg) fun x H' s2 n2 k2 => q1 x H' (s1.trans s2) k2
    refine iB (fun z => ?_) (fun z => ?_)
    · refine iT ?_
      exact far (by rw [z]; rfl) _ q
    · repeat walk_at "rd"
      refine w_fldI h2 T.l_Float T.n_top (flds_t _ _ _) ?_
      repeat walk_at "rd"
      refine w_inf ?_
      repeat walk_at "rd"
      refine iB (fun z2 => ?_) (fun z2 => ?_)
      · exact far (by rw [z2, Bool.or_true]) _ q
      · clear far
        obtain ⟨s, t, p, rfl⟩ := is_fin (nan_no nf) z
        obtain ⟨r, u, p2, rfl⟩ := is_fin (nan_no ng) z2
        repeat walk_at "rd"
        refine w_methI h1 (lk_rat _ _ _) ?_
        repeat walk_at "rd"
        refine ⟨a, s, t, p, rfl, hf, okf, fun q1 H1 s1 n1 e1 => ?_⟩
        repeat walk_at "rd"
        refine w_methI (s1 _ _ h2) (lk_rat _ _ _) ?_
        repeat walk_at "rd"
        refine ⟨b, r, u, p2, rfl, hg.same s1, okg, fun q2 H2 s2 n2 e2 => ?_⟩
        have e1 := s2 _ _ e1
        have T1 := ratT_b okf
        have T2 := ratT_b okg
        have B1 := ratB_b okf
        have B2 := ratB_b okg
        repeat walk_at "rd"
        refine w_ixT e1 (v := .int (ratT s t p)) rfl ?_
        repeat walk_at "rd"
        refine w_ixT e2 (v := .int (ratT r u p2)) rfl ?_
        refine w_I (cmulx (i := ratT s t p) (j := ratT r u p2) (by omega) (by omega)) ?_
        repeat walk_at "rd"
        refine w_ixT e1 (v := .int (ratB p)) rfl ?_
        repeat walk_at "rd"
        refine w_ixT e2 (v := .int (ratB p2)) rfl ?_
        refine w_I (cmulx (i := ratB p) (j := ratB p2) (by omega) (by omega)) ?_
        repeat walk_at "rd"
        have b1 := bits_mul (ratT s t p) (ratT r u p2)
        have b2 := bits_mul (ratB p) (ratB p2)
        exact ⟨_, _, _, rfl, pm_mul pf pg, absI_nn _, Int.mul_pos (ratB_pos _) (ratB_pos _), by rw [bits_abs]; omega, by omega, fun x H' s3 n3 h3 => q x H' (s1.trans (s2.trans s3)) h3⟩
theorem sc_divided : FnScope ["one", "other", "sign", "first", "second"] ["one", "other"] (defScope s_divided) := ⟨rfl, rfl, rfl, by decide +kernel, rfl, by decide +kernel, by decide +kernel⟩
theorem ok_divided (T : AllN K mg CF) (k_nan : Kn P w K mg base CX0 4 "nan" [] (spNan CF)) (k_infinity : Kn P w K mg base CX0 4 "infinity" ["sign"] (spInf CF)) (k_Float_ratio : KnM P w K mg base CX0 1 CF "ratio" ["self"] (spRatio CF)) (k_Float_init : KnC P w K mg base CX0 2 "Float" CF ["self", "sign", "top", "power"] (spInit CF))
    (k_nearest : Kn P w K mg base CX0 5 "nearest" ["sign", "top", "bottom"] (spNear CF)) : Kn P w K mg base CX0 6 "divided" ["one", "other"] (sp2 CF divM) := by
  refine T.x_divided.kn fun f fd F => ?_
  refine F.ok sc_divided (fun vs H Q E h => ?_) (fun cdv A outer s H vs Q E hr h => ?_)
  · obtain ⟨a, b, f, g, rfl, _⟩ := h
    rfl
  · obtain ⟨a, b, f, g, rfl, hf, hg, okf, okg, nf, ng, q⟩ := h
    refine ⟨_, (pss_cons (ps_set (i := 2) sc_divided.nd rfl (Or.inl rfl) (pe_op op_mulX (pe_fld (pv 0) rfl) (pe_fld (pv 1) rfl)))
      (pss_cons (ps_if (pt_cmpR op_eq (pe_fld (pv 0) rfl) pe_str (nomark _)) (pss_one (ps_ret (pe_ifExp (pt_cmpR op_eq (pe_fld (pv 1) rfl) pe_str (nomark _)) (pk0 k_nan hr) (pk k_infinity hr (pa_cons (pv 2) pa_nil))))) pss_nil)
      (pss_cons (ps_if (pt_cmpR op_eq (pe_fld (pv 1) rfl) pe_str (nomark _)) (pss_one (ps_ret (pkC k_Float_init hr (pa_cons (pv 2) (pa_cons pe_int (pa_cons pe_int pa_nil)))))) pss_nil)
      (pss_cons (ps_if (pt_cmpR op_eq (pe_fld (pv 1) rfl) pe_int (nomark _)) (pss_one (ps_ret (pe_ifExp (pt_cmpR op_eq (pe_fld (pv 0) rfl) pe_int (nomark _)) (pk0 k_nan hr) (pk k_infinity hr (pa_cons (pv 2) pa_nil))))) pss_nil)
      (pss_cons (ps_par (by rfl) sc_divided.nd (i := 3) (j := 4) rfl rfl (by decide) rfl rfl (pa_cons (pkM0 k_Float_ratio T.l_Float hr (pv 0) rfl) (pa_cons (pkM0 k_Float_ratio T.l_Float hr (pv 1) rfl) pa_nil)) (by rfl))
      (pss_one (ps_ret (pk k_nearest hr (pa_cons (pv 2) (pa_cons (pe_callB call_abs (by rfl) T.b_abs boot_abs (pa_cons (pe_op op_mulX (pe_ix ix_tup (pv 3) pe_int (fun _ _ => rfl)) (pe_ix ix_tup (pv 4) pe_int (fun _ _ => rfl))) pa_nil)) (pa_cons (pe_callB call_abs (by rfl) T.b_abs boot_abs (pa_cons (pe_op op_mulX (pe_ix ix_tup (pv 3) pe_int (fun _ _ => rfl)) (pe_ix ix_tup (pv 4) pe_int (fun _ _ => rfl))) pa_nil)) pa_nil))))))))))), ?_⟩
    obtain ⟨dx, h1⟩ := id hf
    obtain ⟨dy, h2⟩ := id hg
    have pf := (s_pm okf)
    have pg := (s_pm okg)
    have hnn : (isNan f || isNan g) = false := by rw [nan_no nf, nan_no ng]; rfl
    unfold divM at q
    rw [if_neg (by rw [hnn]; exact Bool.false_ne_true)] at q
    repeat walk_at "rd"
    refine w_fldI h1 T.l_Float T.n_sign (flds_s _ _ _) ?_
    repeat walk_at "rd"
    refine w_fldI h2 T.l_Float T.n_sign (flds_s _ _ _) ?_
    refine w_I (cmulS (i := f.s) (j := g.s) (by omega) (by omega)) ?_
    repeat walk_at "rd"
    refine w_fldI h1 T.l_Float T.n_top (flds_t _ _ _) ?_
    repeat walk_at "rd"
    refine w_inf ?_
    repeat walk_at "rd"
    refine iB (fun z => ?_) (fun z => ?_)
    · rw [if_pos z] at q
      repeat walk_at "rd"
      refine w_fldI h2 T.l_Float T.n_top (flds_t _ _ _) ?_
      repeat walk_at "rd"
      refine w_inf ?_
      repeat walk_at "rd"
      refine iB (fun z2 => ?_) (fun z2 => ?_)
      · rw [if_pos z2] at q
        repeat walk_at "rd"
        exact u_nan fun x H' s2 n2 k2 => q x H' s2 k2
      · rw [if_neg (by rw [z2]; exact Bool.false_ne_true)] at q
        repeat walk_at "rd"
        exact u_inf (pm_mul pf pg) fun x H' s2 n2 k2 => q x H' s2 k2
    · rw [if_neg (by rw [z]; exact Bool.false_ne_true)] at q
      repeat walk_at "rd"
      refine w_fldI h2 T.l_Float T.n_top (flds_t _ _ _) ?_
      repeat walk_at "rd"
      refine w_inf ?_
      repeat walk_at "rd"
      refine iB (fun z2 => ?_) (fun z2 => ?_)
      · rw [if_pos z2] at q
        repeat walk_at "rd"
        refine u_Float (.inl ⟨0, rfl, by decide, pm_mul pf pg, by rw [red_zero]; decide, rfl⟩) fun x H' s1 n1 k1 => ?_
        rw [red_zero] at k1
        exact q x H' s1 k1
      · rw [if_neg (by rw [z2]; exact Bool.false_ne_true)] at q
        repeat walk_at "rd"
        refine w_fldI h2 T.l_Float T.n_top (flds_t _ _ _) ?_
        repeat walk_at "rd"
        refine w_zero ?_
        repeat walk_at "rd"
        refine iB (fun z3 => ?_) (fun z3 => ?_)
        · rw [if_pos z3] at q
          repeat walk_at "rd"
          refine w_fldI h1 T.l_Float T.n_top (flds_t _ _ _) ?_
          repeat walk_at "rd"
          refine w_zero ?_
          repeat walk_at "rd"
          refine iB (fun z4 => ?_) (fun z4 => ?_)
          · rw [if_pos z4] at q
            repeat walk_at "rd"
            exact u_nan fun x H' s2 n2 k2 => q x H' s2 k2
          · rw [if_neg (by rw [z4]; exact Bool.false_ne_true)] at q
            repeat walk_at "rd"
            exact u_inf (pm_mul pf pg) fun x H' s2 n2 k2 => q x H' s2 k2
        · rw [if_neg (by rw [z3]; exact Bool.false_ne_true)] at q
          obtain ⟨s, t, p, rfl⟩ := is_fin (nan_no nf) z
          obtain ⟨r, u, p2, rfl⟩ := is_fin (nan_no ng) z2
          repeat walk_at "rd"
          refine w_methI h1 (lk_rat _ _ _) ?_
          repeat walk_at "rd"
          refine ⟨a, s, t, p, rfl, hf, okf, fun q1 H1 s1 n1 e1 => ?_⟩
          repeat walk_at "rd"
          refine w_methI (s1 _ _ h2) (lk_rat _ _ _) ?_
          repeat walk_at "rd"
          refine ⟨b, r, u, p2, rfl, hg.same s1, okg, fun q2 H2 s2 n2 e2 => ?_⟩
          have e1 := s2 _ _ e1
          have T1 := ratT_b okf
          have T2 := ratT_b okg
          have B1 := ratB_b okf
          have B2 := ratB_b okg
          repeat walk_at "rd"
          refine w_ixT e1 (v := .int (ratT s t p)) rfl ?_
          repeat walk_at "rd"
          refine w_ixT e2 (v := .int (ratB p2)) rfl ?_
          refine w_I (cmulx (i := ratT s t p) (j := ratB p2) (by omega) (by omega)) ?_
          repeat walk_at "rd"
          refine w_ixT e1 (v := .int (ratB p)) rfl ?_
          repeat walk_at "rd"
          refine w_ixT e2 (v := .int (ratT r u p2)) rfl ?_
          refine w_I (cmulx (i := ratB p) (j := ratT r u p2) (by omega) (by omega)) ?_
          repeat walk_at "rd"
          have b1 := bits_mul (ratT s t p) (ratB p2)
          have b2 := bits_mul (ratB p) (ratT r u p2)
          exact ⟨_, _, _, rfl, pm_mul pf pg, absI_nn _, div_pos (s := 0) (t := 0) okg z3, by rw [bits_abs]; omega, by rw [bits_abs]; omega, fun x H' s3 n3 h3 => q x H' (s1.trans (s2.trans s3)) h3⟩
end
end Nu

set_option Elab.async false
set_option linter.all false
set_option maxRecDepth 100000
set_option autoImplicit false
set_option maxHeartbeats 4000000
namespace Rd
open PySem PySem.Spec PyProof.Rows L2
def CDivZ (_ j : Int) : Prop := j ≠ 0 ∧ j.natAbs.log2 < 9000
theorem op_fdivZ {X : Cx} : OpR X (binaryOp .FloorDiv) (rI CDivZ fun i j => .int (i.fdiv j)) := opI fun _ _ _ _ _ _ _ hc q => floordiv_int hc.1 q (.inl (PyProof.noPylong_of_log2 hc.2))
theorem cdivz {i j : Int} (h : j ≠ 0) (hb : j.natAbs < 2 ^ 70) : CDivZ i j := ⟨h, Nat.lt_of_lt_of_le (PySem.Flt.log2_lt_of (by decide) hb) (by decide)⟩
end Rd
namespace Nu
open PySem PySem.Spec PyProof.Rows L2 Rd
local macro_rules | `(tactic| walk_at "hp") => `(tactic| first | assumption | (refine same_get ?sm ?_; (case sm => assumption); walk_at "hp"))
local macro_rules | `(tactic| walk_at "rd") => `(tactic| first
  | with_reducible refine w_nx ?_
  | with_reducible refine w_rt ?_
  | with_reducible refine w_bk ?_
  | with_reducible refine w_ct ?_
  | with_reducible refine w_seq ?_
  | with_reducible refine w_next ?_
  | with_reducible refine w_ret ?_
  | with_reducible refine w_ifS ?_
  | with_reducible refine w_asg ?_
  | with_reducible refine w_name ?_
  | with_reducible refine w_par ?_
  | with_reducible refine w_parI ?_
  | with_reducible refine w_ii ?_
  | with_reducible refine w_i1 ?_
  | with_reducible refine w_drop ?_
  | with_reducible refine w_sFld ?_
  | ((with_reducible refine' w_var ?rdh ?_); (case rdh => exact rfl))
  | with_reducible refine w_c ?_
  | with_reducible refine w_op ?_
  | with_reducible refine w_un ?_
  | with_reducible refine w_I0 ?_
  | with_reducible refine w_U ?_
  | with_reducible refine w_bits ?_
  | with_reducible refine w_bitsI ?_
  | with_reducible refine w_tup ?_
  | with_reducible refine w_lst ?_
  | with_reducible refine w_nil ?_
  | with_reducible refine w_cons ?_
  | with_reducible refine w_fld ?_
  | with_reducible refine w_call ?_
  | with_reducible refine w_make ?_
  | with_reducible refine w_gsub ?_
  | with_reducible refine w_int1 ?_
  | with_reducible refine w_intB ?_
  | with_reducible refine w_for ?_
  | with_reducible refine w_rng1 ?_
  | with_reducible refine w_iList ?_
  | with_reducible refine w_iTup ?_
  | with_reducible refine w_makeD ?_
  | with_reducible refine w_nn ?_
  | with_reducible refine w_subB ?_
  | with_reducible refine w_meth ?_
  | with_reducible refine w_cb ?_
  | with_reducible refine w_test ?_
  | with_reducible refine w_B ?_
  | with_reducible refine w_bl ?_
  | with_reducible refine w_andV ?_
  | with_reducible refine w_orV ?_
  | with_reducible refine w_notV ?_
  | with_reducible refine w_and ?_
  | with_reducible refine w_or ?_
  | with_reducible refine w_not ?_
  | with_reducible refine w_if ?_
  | with_reducible refine w_gnil ?_
  | with_reducible refine w_gcons ?_
  | with_reducible refine iT ?_
  | with_reducible refine iF ?_
  | with_reducible refine w_eqI ?_
  | with_reducible refine w_neI ?_
  | with_reducible refine w_eqS ?_
  | with_reducible refine w_eqIS ?_
  | with_reducible refine w_eqSI ?_)

theorem emod_le' {a b : Int} (h : 0 ≤ a) (hb : 0 < b) : a % b ≤ a := by
  have h1 := Int.ediv_mul_add_emod a b
  have h2 := Int.mul_nonneg (Int.ediv_nonneg h (Int.le_of_lt hb)) (Int.le_of_lt hb)
  omega
theorem inf_in1 (f : Fl) : eqV f.t (.str "inf") = isInf f := by
  cases f with
  | fin s t p => rfl
  | nan => show eqV (.str "nan") (.str "inf") = false; decide +kernel
  | inf s => show eqV (.str "inf") (.str "inf") = true; decide +kernel
theorem w_nInf {f : Fl} {H : Hp} {Q : VK} (q : Q (.bl (!isInf f)) H) : rNe f.t (.str "inf") H Q := by
  cases f with
  | fin s t p => exact w_ne rfl (by rw [decide_eq_false (fun e => nomatch e)]; exact q)
  | inf s =>
    show rNe (.str "inf") (.str "inf") H Q
    exact w_ne rfl (by rw [decide_eq_true rfl]; exact q)
  | nan =>
    show rNe (.str "nan") (.str "inf") H Q
    exact w_ne rfl (by rw [decide_eq_false (s_inf (a := "nan"))]; exact q)
theorem w_nZero {f : Fl} {H : Hp} {Q : VK} (q : Q (.bl (!isZero f)) H) : rNe f.t (.int 0) H Q := by
  cases f with
  | fin s t p => exact w_neI q
  | inf s => exact w_ne rfl (by rw [decide_eq_false (fun e => nomatch e)]; exact q)
  | nan => exact w_ne rfl (by rw [decide_eq_false (fun e => nomatch e)]; exact q)
def floorM : Fl → Fl
  | .fin s t p => if 0 ≤ p then .fin s t p else nearM (if ratT s t p / ratB p < 0 then -1 else 1) (absI (ratT s t p / ratB p)) 1
  | f => f
def leftM : Fl → Fl → Fl
  | .fin s t p, .fin r u q => nearM s (absI (ratT s t p * ratB q) % absI (ratT r u q * ratB p)) (ratB p * ratB q)
  | f, _ => f
def remM (f g : Fl) : Fl := if isInf f = true then .nan else if isZero g = true then .nan else
  if isZero (leftM f g) = true then leftM f g else if (leftM f g).s = g.s then leftM f g else addM (leftM f g) g
theorem floorM_fin (s t p : Int) : floorM (.fin s t p) = if 0 ≤ p then .fin s t p else nearM (if ratT s t p / ratB p < 0 then -1 else 1) (absI (ratT s t p / ratB p)) 1 := rfl
theorem floorM_ok {f : Fl} (h : f.ok) : (floorM f).ok := by
  cases f with
  | nan => exact h
  | inf s => exact h
  | fin s t p =>
    rw [floorM_fin]
    by_cases c : 0 ≤ p
    · rw [if_pos c]; exact h
    · rw [if_neg c]; exact nearM_ok (b := 1) (sgn_pm _) (absI_nn _) (by decide)
theorem low_pos {s t p r u q : Int} (hg : (Fl.fin r u q).ok) (hz : isZero (.fin r u q) = false) : 0 < absI (ratT r u q * ratB p) := by
  have := div_pos (s := 0) (t := 0) (p := p) hg hz
  rwa [Int.mul_comm] at this
theorem leftM_ok {f g : Fl} (hf : f.ok) (hg : g.ok) (hz : isZero g = false) : (leftM f g).ok := by
  cases f with
  | nan => exact hf
  | inf s => exact hf
  | fin s t p =>
    cases g with
    | nan => exact hf
    | inf s => exact hf
    | fin r u q => exact nearM_ok hf.1 (Int.emod_nonneg _ (by have := low_pos (s := 0) (t := 0) (p := p) hg hz; omega)) (Int.mul_pos (ratB_pos _) (ratB_pos _))
theorem remM_ok {f g : Fl} (hf : f.ok) (hg : g.ok) : (remM f g).ok := by
  unfold remM
  split
  · exact trivial
  split
  · exact trivial
  · rename_i h
    have k := leftM_ok hf hg (Bool.eq_false_iff.mpr h)
    split
    · exact k
    split
    · exact k
    · exact addM_ok k hg
theorem nearM_nn {s t b : Int} : nearM s t b ≠ .nan := by
  unfold nearM
  intro e
  split at e
  · cases e
  · split at e <;> cases e
theorem leftM_nn {f g : Fl} (hf : f ≠ .nan) : leftM f g ≠ .nan := by
  unfold leftM
  split
  · exact nearM_nn
  · exact hf
section
variable {P : Program} {w : World} {K : PySem.W.Frag} {mg : Str → Option Value} {base : Heap} {CF : Addr}
def spFloor (CF : Addr) : Sp := fun vs H Q _ => ∃ a f, vs = [.ref a] ∧ FlAt CF H a f ∧ f.ok ∧ ∀ x H', Same H H' → FlAt CF H' x (floorM f) → Q (.ref x) H'
theorem sc_floored : FnScope ["number", "top", "bottom", "whole"] ["number"] (defScope s_floored) := ⟨rfl, rfl, rfl, by decide +kernel, rfl, by decide +kernel, by decide +kernel⟩
theorem ok_floored (T : AllN K mg CF) (k_Float_ratio : KnM P w K mg base CX0 1 CF "ratio" ["self"] (spRatio CF)) (k_sign_of : Kn P w K mg base CX0 1 "sign_of" ["is_negative"] spSign) (k_nearest : Kn P w K mg base CX0 5 "nearest" ["sign", "top", "bottom"] (spNear CF)) :
    Kn P w K mg base CX0 6 "floored" ["number"] (spFloor CF) := by
  refine T.x_floored.kn fun f fd F => ?_
  refine F.ok sc_floored (fun vs H Q E h => ?_) (fun cdv A outer s H vs Q E hr h => ?_)
  · obtain ⟨a, f, rfl, _⟩ := h
    rfl
  · obtain ⟨a, f, rfl, hf, okf, q⟩ := h
    refine ⟨_, (pss_cons (ps_if (PW.pt (pw_or (pt_cmpR op_in_seq (pe_fld (pv 0) rfl) (pe_tup (pa_cons pe_str (pa_cons pe_str pa_nil))) rfl) (pw_or1 (pt_cmpR op_ge (pe_fld (pv 0) rfl) pe_int (nomark _))))) (pss_one (ps_ret (pv 0))) pss_nil)
      (pss_cons (ps_asg (pkM0 k_Float_ratio T.l_Float hr (pv 0) rfl) (pg_tup (by rfl) (pgs_cons (pg_name (i := 1) sc_floored.nd rfl (Or.inl rfl)) (pgs_cons (pg_name (i := 2) sc_floored.nd rfl (Or.inl rfl)) pgs_nil))))
      (pss_cons (ps_set (i := 3) sc_floored.nd rfl (Or.inl rfl) (pe_op op_fdivW (pv 1) (pv 2)))
      (pss_one (ps_ret (pk k_nearest hr (pa_cons (pk k_sign_of hr (pa_cons (pe_cmpR op_lt (pv 3) pe_int (nomark _)) pa_nil)) (pa_cons (pe_callB call_abs (by rfl) T.b_abs boot_abs (pa_cons (pv 3) pa_nil)) (pa_cons pe_int pa_nil))))))))), ?_⟩
    obtain ⟨dx, h1⟩ := id hf
    repeat walk_at "rd"
    refine w_fldI h1 T.l_Float T.n_top (flds_t _ _ _) ?_
    repeat walk_at "rd"
    refine w_tup2 fun a1 H1 s1 n1 e1 => ?_
    refine w_in e1 (Fl.flat f) rfl ?_
    have ein : inV f.t [.str "inf", .str "nan"] = (isInf f || isNan f) := by
      unfold inV
      cases f with
      | fin s t p => rfl
      | inf s => show ([V.str "inf", .str "nan"].any fun y => eqV y (.str "inf")) = true; decide +kernel
      | nan => show ([V.str "inf", .str "nan"].any fun y => eqV y (.str "nan")) = true; decide +kernel
    rw [ein]
    have h1 := s1 _ _ h1
    repeat walk_at "rd"
    by_cases c : (isInf f || isNan f) = true
    · rw [c]
      repeat walk_at "rd"
      refine q a H1 s1 ?_
      cases f with
      | fin s t p => cases c
      | inf s => exact hf.same s1
      | nan => exact hf.same s1
    · obtain ⟨c1, c2⟩ := Bool.or_eq_false_iff.1 (Bool.eq_false_iff.mpr c)
      rw [Bool.eq_false_iff.mpr c]
      obtain ⟨s, t, p, rfl⟩ := is_fin c2 c1
      rw [floorM_fin] at q
      repeat walk_at "rd"
      refine w_fldI h1 T.l_Float T.n_power (flds_p _ _ _) ?_
      repeat walk_at "rd"
      refine iD (fun c => ?_) (fun c => ?_)
      · rw [if_pos (show 0 ≤ p from c)] at q
        repeat walk_at "rd"
        exact q a H1 s1 (hf.same s1)
      · rw [if_neg (show ¬ 0 ≤ p from c)] at q
        repeat walk_at "rd"
        refine w_methI h1 (lk_rat _ _ _) ?_
        repeat walk_at "rd"
        refine ⟨a, s, t, p, rfl, hf.same s1, okf, fun q1 H2 s2 n2 e2 => ?_⟩
        refine w_gtup e2 rfl ?_
        have B1 := ratB_b okf
        have T1 := ratT_b okf
        repeat walk_at "rd"
        refine w_I (cdivw (i := ratT s t p) (j := ratB p) (ratB_pos p) (by omega)) ?_
        have bq : bits (ratT s t p / ratB p) ≤ 1100 := by
          have h3 := (bits_le (n := ratT s t p) (k := 1025)).1 T1
          have h4 := ratB_pos p
          have h5 : (ratT s t p / ratB p).natAbs ≤ (ratT s t p).natAbs := Int.natAbs_ediv_le_natAbs _ _
          have := (bits_le (n := ratT s t p / ratB p) (k := 1025)).2 (by omega)
          omega
        generalize ratT s t p / ratB p = d at bq q ⊢
        repeat walk_at "rd"
        refine ⟨_, rfl, ?_⟩
        repeat walk_at "rd"
        have es : (if decide (d < 0) = true then (-1 : Int) else 1) = if d < 0 then -1 else 1 := by simp only [decide_eq_true_eq]
        rw [es]
        exact ⟨_, _, _, rfl, sgn_pm _, absI_nn _, by decide, by rw [bits_abs]; omega, by decide, fun x H' s3 n3 h3 => q x H' (s1.trans (s2.trans s3)) h3⟩
theorem sc_remainder : FnScope ["one", "other", "left", "first", "second", "rest"] ["one", "other"] (defScope s_remainder) := ⟨rfl, rfl, rfl, by decide +kernel, rfl, by decide +kernel, by decide +kernel⟩
theorem ok_remainder (T : AllN K mg CF) (k_nan : Kn P w K mg base CX0 4 "nan" [] (spNan CF)) (k_Float_ratio : KnM P w K mg base CX0 1 CF "ratio" ["self"] (spRatio CF)) (k_nearest : Kn P w K mg base CX0 5 "nearest" ["sign", "top", "bottom"] (spNear CF))
    (k_added : Kn P w K mg base CX0 6 "added" ["one", "other"] (spAdded CF)) : Kn P w K mg base CX0 7 "remainder" ["one", "other"] (sp2 CF remM) := by
  refine T.x_remainder.kn fun f fd F => ?_
  refine F.ok sc_remainder (fun vs H Q E h => ?_) (fun cdv A outer s H vs Q E hr h => ?_)
  · obtain ⟨a, b, f, g, rfl, _⟩ := h
    rfl
  · obtain ⟨a, b, f, g, rfl, hf, hg, okf, okg, nf, ng, q⟩ := h
    refine ⟨_, (pss_cons (ps_if (PW.pt (pw_or (pt_cmpR op_eq (pe_fld (pv 0) rfl) pe_str (nomark _)) (pw_or1 (pt_cmpR op_eq (pe_fld (pv 1) rfl) pe_int (nomark _))))) (pss_one (ps_ret (pk0 k_nan hr))) pss_nil)
      (pss_cons (ps_set (i := 2) sc_remainder.nd rfl (Or.inl rfl) (pv 0))
      (C8.pss_cut (ps_if (pt_cmpR op_ne (pe_fld (pv 1) rfl) pe_str (nomark _)) (pss_cons (ps_par (by rfl) sc_remainder.nd (i := 3) (j := 4) rfl rfl (by decide) rfl rfl (pa_cons (pkM0 k_Float_ratio T.l_Float hr (pv 0) rfl) (pa_cons (pkM0 k_Float_ratio T.l_Float hr (pv 1) rfl) pa_nil)) (by rfl))
      (pss_cons (ps_set (i := 5) sc_remainder.nd rfl (Or.inl rfl) (pe_op op_mod (pe_callB call_abs (by rfl) T.b_abs boot_abs (pa_cons (pe_op op_mulX (pe_ix ix_tup (pv 3) pe_int (fun _ _ => rfl)) (pe_ix ix_tup (pv 4) pe_int (fun _ _ => rfl))) pa_nil)) (pe_callB call_abs (by rfl) T.b_abs boot_abs (pa_cons (pe_op op_mulX (pe_ix ix_tup (pv 4) pe_int (fun _ _ => rfl)) (pe_ix ix_tup (pv 3) pe_int (fun _ _ => rfl))) pa_nil))))
      (pss_one (ps_set (i := 2) sc_remainder.nd rfl (Or.inl rfl) (pk k_nearest hr (pa_cons (pe_fld (pv 0) rfl) (pa_cons (pv 5) (pa_cons (pe_op op_mulX (pe_ix ix_tup (pv 3) pe_int (fun _ _ => rfl)) (pe_ix ix_tup (pv 4) pe_int (fun _ _ => rfl))) pa_nil)))))))) pss_nil)
      (pss_cons (ps_if (PW.pt (pw_and (pt_cmpR op_ne (pe_fld (pv 2) rfl) pe_int (nomark _)) (pw_and1 (pt_cmpR op_ne (pe_fld (pv 2) rfl) (pe_fld (pv 1) rfl) (nomark _))))) (pss_one (ps_ret (pk k_added hr (pa_cons (pv 2) (pa_cons (pv 1) pa_nil))))) pss_nil)
      (pss_one (ps_ret (pv 2))))))), ?_⟩
    obtain ⟨dx, h1⟩ := id hf
    obtain ⟨dy, h2⟩ := id hg
    unfold remM at q
    repeat walk_at "rd"
    refine w_fldI h1 T.l_Float T.n_top (flds_t _ _ _) ?_
    repeat walk_at "rd"
    refine w_inf ?_
    repeat walk_at "rd"
    refine iB (fun z => ?_) (fun z => ?_)
    · rw [if_pos z] at q
      repeat walk_at "rd"
      exact u_nan fun x H' s2 n2 k2 => q x H' s2 k2
    rw [if_neg (by rw [z]; exact Bool.false_ne_true)] at q
    repeat walk_at "rd"
    refine w_fldI h2 T.l_Float T.n_top (flds_t _ _ _) ?_
    repeat walk_at "rd"
    refine w_zero ?_
    repeat walk_at "rd"
    refine iB (fun z2 => ?_) (fun z2 => ?_)
    · rw [if_pos z2] at q
      repeat walk_at "rd"
      exact u_nan fun x H' s2 n2 k2 => q x H' s2 k2
    rw [if_neg (by rw [z2]; exact Bool.false_ne_true)] at q
    have okl := leftM_ok okf okg z2
    have nnl := leftM_nn (g := g) nf
    repeat walk_at "rd"
    refine w_cut (Mid := fun σ' H' => Same H H' ∧ ∃ l v1 v2 v3, σ' = [some (.ref a), some (.ref b), some (.ref l), v1, v2, v3] ∧ FlAt CF H' l (leftM f g)) ?_ ?_
    · repeat walk_at "rd"
      refine w_fldI h2 T.l_Float T.n_top (flds_t _ _ _) ?_
      repeat walk_at "rd"
      refine w_nInf ?_
      repeat walk_at "rd"
      by_cases ci : isInf g = true
      · rw [ci]
        repeat walk_at "rd"
        refine iF ?_
        repeat walk_at "rd"
        refine ⟨Same.refl _, a, _, _, _, rfl, ?_⟩
        cases g with
        | inf r =>
          have : leftM f (.inf r) = f := by cases f <;> rfl
          rw [this]
          exact hf
        | fin _ _ _ => cases ci
        | nan => cases ci
      · have ci := Bool.eq_false_iff.mpr ci
        rw [ci]
        refine iT ?_
        obtain ⟨s, t, p, rfl⟩ := is_fin (nan_no nf) z
        obtain ⟨r, u, p2, rfl⟩ := is_fin (nan_no ng) ci
        repeat walk_at "rd"
        refine w_methI h1 (lk_rat _ _ _) ?_
        repeat walk_at "rd"
        refine ⟨a, s, t, p, rfl, hf, okf, fun q1 H1 s1 n1 e1 => ?_⟩
        repeat walk_at "rd"
        refine w_methI (s1 _ _ h2) (lk_rat _ _ _) ?_
        repeat walk_at "rd"
        refine ⟨b, r, u, p2, rfl, hg.same s1, okg, fun q2 H2 s2 n2 e2 => ?_⟩
        have e1 := s2 _ _ e1
        have T1 := ratT_b okf
        have T2 := ratT_b okg
        have B1 := ratB_b okf
        have B2 := ratB_b okg
        repeat walk_at "rd"
        refine w_ixT e1 (v := .int (ratT s t p)) rfl ?_
        repeat walk_at "rd"
        refine w_ixT e2 (v := .int (ratB p2)) rfl ?_
        refine w_I (cmulx (i := ratT s t p) (j := ratB p2) (by omega) (by omega)) ?_
        repeat walk_at "rd"
        refine w_ixT e2 (v := .int (ratT r u p2)) rfl ?_
        repeat walk_at "rd"
        refine w_ixT e1 (v := .int (ratB p)) rfl ?_
        refine w_I (cmulx (i := ratT r u p2) (j := ratB p) (by omega) (by omega)) ?_
        repeat walk_at "rd"
        have lp : 0 < absI (ratT r u p2 * ratB p) := low_pos (s := 0) (t := 0) okg z2
        refine w_I (C := fun _ j => 0 < j) (j := absI (ratT r u p2 * ratB p)) lp ?_
        repeat walk_at "rd"
        refine w_fldI (s2 _ _ (s1 _ _ h1)) T.l_Float T.n_sign (flds_s _ _ _) ?_
        repeat walk_at "rd"
        refine w_ixT e1 (v := .int (ratB p)) rfl ?_
        repeat walk_at "rd"
        refine w_ixT e2 (v := .int (ratB p2)) rfl ?_
        refine w_I (cmulx (i := ratB p) (j := ratB p2) (by omega) (by omega)) ?_
        repeat walk_at "rd"
        have b1 := bits_mul (ratT s t p) (ratB p2)
        have b2 := bits_mul (ratB p) (ratB p2)
        have rn : 0 ≤ absI (ratT s t p * ratB p2) % absI (ratT r u p2 * ratB p) := Int.emod_nonneg _ (by omega)
        have rb : bits (absI (ratT s t p * ratB p2) % absI (ratT r u p2 * ratB p)) ≤ 2200 := by
          have h3 : absI (ratT s t p * ratB p2) % absI (ratT r u p2 * ratB p) ≤ absI (ratT s t p * ratB p2) := emod_le' (absI_nn _) lp
          have := bits_mono rn h3
          rw [absI_bits] at this
          omega
        refine ⟨_, _, _, rfl, okf.1, rn, Int.mul_pos (ratB_pos _) (ratB_pos _), rb, by omega, fun x H' s3 n3 h3 => ?_⟩
        repeat walk_at "rd"
        exact ⟨s1.trans (s2.trans s3), x, _, _, _, rfl, h3⟩
    rintro σ' H1 ⟨s1, l, v1, v2, v3, rfl, hl⟩
    obtain ⟨dl, h3⟩ := id hl
    have pl := s_pm okl
    repeat walk_at "rd"
    refine w_fldI h3 T.l_Float T.n_top (flds_t _ _ _) ?_
    repeat walk_at "rd"
    refine w_nZero ?_
    repeat walk_at "rd"
    by_cases cz : isZero (leftM f g) = true
    · rw [if_pos cz] at q
      rw [cz]
      repeat walk_at "rd"
      refine iF ?_
      repeat walk_at "rd"
      exact q l H1 s1 hl
    · rw [if_neg cz] at q
      rw [Bool.eq_false_iff.mpr cz]
      refine iT ?_
      repeat walk_at "rd"
      refine w_fldI h3 T.l_Float T.n_sign (flds_s _ _ _) ?_
      repeat walk_at "rd"
      refine w_fldI (s1 _ _ h2) T.l_Float T.n_sign (flds_s _ _ _) ?_
      repeat walk_at "rd"
      refine iN (fun c => ?_) (fun c => ?_)
      · rw [if_neg c] at q
        repeat walk_at "rd"
        exact ⟨l, b, _, g, rfl, hl, hg.same s1, okl, okg, nnl, ng, fun x H' s2 k2 => q x H' (s1.trans s2) k2⟩
      · rw [if_pos c] at q
        repeat walk_at "rd"
        exact q l H1 s1 hl
end
end Nu

set_option Elab.async false
set_option linter.all false
set_option maxRecDepth 100000
set_option autoImplicit false
set_option maxHeartbeats 4000000
namespace Nu
open PySem PySem.Spec PyProof.Rows L2 Rd
local macro_rules | `(tactic| walk_at "hp") => `(tactic| first | assumption | (refine same_get ?sm ?_; (case sm => assumption); walk_at "hp"))
local macro_rules | `(tactic| walk_at "rd") => `(tactic| first
  | with_reducible refine w_nx ?_
  | with_reducible refine w_rt ?_
  | with_reducible refine w_bk ?_
  | with_reducible refine w_ct ?_
  | with_reducible refine w_seq ?_
  | with_reducible refine w_next ?_
  | with_reducible refine w_ret ?_
  | with_reducible refine w_ifS ?_
  | with_reducible refine w_asg ?_
  | with_reducible refine w_name ?_
  | with_reducible refine w_par ?_
  | with_reducible refine w_parI ?_
  | with_reducible refine w_ii ?_
  | with_reducible refine w_i1 ?_
  | with_reducible refine w_drop ?_
  | with_reducible refine w_sFld ?_
  | ((with_reducible refine' w_var ?rdh ?_); (case rdh => exact rfl))
  | with_reducible refine w_c ?_
  | with_reducible refine w_op ?_
  | with_reducible refine w_un ?_
  | with_reducible refine w_I0 ?_
  | with_reducible refine w_U ?_
  | with_reducible refine w_bits ?_
  | with_reducible refine w_bitsI ?_
  | with_reducible refine w_tup ?_
  | with_reducible refine w_lst ?_
  | with_reducible refine w_nil ?_
  | with_reducible refine w_cons ?_
  | with_reducible refine w_fld ?_
  | with_reducible refine w_call ?_
  | with_reducible refine w_make ?_
  | with_reducible refine w_gsub ?_
  | with_reducible refine w_int1 ?_
  | with_reducible refine w_intB ?_
  | with_reducible refine w_for ?_
  | with_reducible refine w_rng1 ?_
  | with_reducible refine w_iList ?_
  | with_reducible refine w_iTup ?_
  | with_reducible refine w_makeD ?_
  | with_reducible refine w_nn ?_
  | with_reducible refine w_subB ?_
  | with_reducible refine w_meth ?_
  | with_reducible refine w_cb ?_
  | with_reducible refine w_test ?_
  | with_reducible refine w_B ?_
  | with_reducible refine w_bl ?_
  | with_reducible refine w_andV ?_
  | with_reducible refine w_orV ?_
  | with_reducible refine w_notV ?_
  | with_reducible refine w_and ?_
  | with_reducible refine w_or ?_
  | with_reducible refine w_not ?_
  | with_reducible refine w_if ?_
  | with_reducible refine w_gnil ?_
  | with_reducible refine w_gcons ?_
  | with_reducible refine iT ?_
  | with_reducible refine iF ?_
  | with_reducible refine w_eqI ?_
  | with_reducible refine w_neI ?_
  | with_reducible refine w_eqS ?_
  | with_reducible refine w_eqIS ?_
  | with_reducible refine w_eqSI ?_)

/-! ### what an operator makes of two floats -/
def ariM (w : Str) (f g : Fl) : Fl := if (isNan f || isNan g) = true then .nan else if w = "add" then addM f g else if w = "sub" then addM f (negM g) else if w = "mul" then mulM f g else if w = "mod" then remM f g else if w = "floor" then floorM (divM f g) else divM f g
def Four (w : Str) : Prop := w = "add" ∨ w = "sub" ∨ w = "mul" ∨ w = "div" ∨ w = "mod" ∨ w = "floor"
theorem four_in {w : Str} (h : Four w) : inV (.str w) [.str "band", .str "bor", .str "bxor", .str "shl", .str "shr"] = false := by
  rcases h with rfl | rfl | rfl | rfl | rfl | rfl <;> decide +kernel
theorem negM_nan {f : Fl} (h : f ≠ .nan) : negM f ≠ .nan := by cases f <;> intro e <;> first | exact h rfl | cases e
theorem ariM_ok {w : Str} {f g : Fl} (hf : f.ok) (hg : g.ok) : (ariM w f g).ok := by
  unfold ariM
  split
  · exact trivial
  split
  · exact addM_ok hf hg
  split
  · exact addM_ok hf (negM_ok hg)
  split
  · exact mulM_ok hf hg
  split
  · exact remM_ok hf hg
  split
  · exact floorM_ok (divM_ok hf hg)
  · exact divM_ok hf hg
def toF : Nm → Fl
  | .int i => nearM (if i < 0 then -1 else 1) (if i < 0 then -i else i) 1
  | .fl f => f
def isFl : Nm → Bool
  | .int _ => false
  | .fl _ => true
section
variable {P : Program} {w : World} {K : PySem.W.Frag} {mg : Str → Option Value} {base : Heap} {CF : Addr}
def spBy (CF : Addr) : Sp := fun vs H Q _ => ∃ wd a b f g, vs = [.str wd, .ref a, .ref b] ∧ Four wd ∧ FlAt CF H a f ∧ FlAt CF H b g ∧ f.ok ∧ g.ok ∧ ∀ x H', Same H H' → FlAt CF H' x (ariM wd f g) → Q (.ref x) H'
theorem sc_by_floats : FnScope ["word", "one", "other", "found"] ["word", "one", "other"] (defScope s_by_floats) := ⟨rfl, rfl, rfl, by decide +kernel, rfl, by decide +kernel, by decide +kernel⟩
theorem ok_by_floats (T : AllN K mg CF) (k_nan : Kn P w K mg base CX0 4 "nan" [] (spNan CF)) (k_added : Kn P w K mg base CX0 6 "added" ["one", "other"] (spAdded CF)) (k_multiplied : Kn P w K mg base CX0 6 "multiplied" ["one", "other"] (sp2 CF mulM)) (k_divided : Kn P w K mg base CX0 6 "divided" ["one", "other"] (sp2 CF divM))
    (k_remainder : Kn P w K mg base CX0 7 "remainder" ["one", "other"] (sp2 CF remM)) (k_floored : Kn P w K mg base CX0 6 "floored" ["number"] (spFloor CF)) (k_Float_init : KnC P w K mg base CX0 2 "Float" CF ["self", "sign", "top", "power"] (spInit CF)) : Kn P w K mg base CX0 8 "by_floats" ["word", "one", "other"] (spBy CF) := by
  refine T.x_by_floats.kn fun f fd F => ?_
  refine F.ok sc_by_floats (fun vs H Q E h => ?_) (fun cdv A outer s H vs Q E hr h => ?_)
  · obtain ⟨wd, a, b, f, g, rfl, _⟩ := h
    rfl
  · obtain ⟨wd, a, b, f, g, rfl, h4, hf, hg, okf, okg, q⟩ := h
    refine ⟨_, (pss_cons (ps_if (pt_cmpR op_in_seq pe_str (pe_tup (pa_cons (pe_fld (pv 1) rfl) (pa_cons (pe_fld (pv 2) rfl) pa_nil))) rfl) (pss_one (ps_ret (pk0 k_nan hr))) pss_nil)
      (pss_cons (ps_if (pt_cmpR op_eq (pv 0) pe_str (nomark _)) (pss_one (ps_ret (pk k_added hr (pa_cons (pv 1) (pa_cons (pv 2) pa_nil))))) pss_nil)
      (pss_cons (ps_if (pt_cmpR op_eq (pv 0) pe_str (nomark _)) (pss_one (ps_ret (pk k_added hr (pa_cons (pv 1) (pa_cons (pkC k_Float_init hr (pa_cons (pe_op op_sub pe_int (pe_fld (pv 2) rfl)) (pa_cons (pe_fld (pv 2) rfl) (pa_cons (pe_fld (pv 2) rfl) pa_nil)))) pa_nil))))) pss_nil)
      (pss_cons (ps_if (pt_cmpR op_eq (pv 0) pe_str (nomark _)) (pss_one (ps_ret (pk k_multiplied hr (pa_cons (pv 1) (pa_cons (pv 2) pa_nil))))) pss_nil)
      (pss_cons (ps_if (pt_cmpR op_eq (pv 0) pe_str (nomark _)) (pss_one (ps_ret (pk k_remainder hr (pa_cons (pv 1) (pa_cons (pv 2) pa_nil))))) pss_nil)
      (pss_cons (ps_set (i := 3) sc_by_floats.nd rfl (Or.inl rfl) (pk k_divided hr (pa_cons (pv 1) (pa_cons (pv 2) pa_nil))))
      (pss_one (ps_ret (pe_ifExp (pt_cmpR op_eq (pv 0) pe_str (nomark _)) (pk k_floored hr (pa_cons (pv 3) pa_nil)) (pv 3)))))))))), ?_⟩
    obtain ⟨dx, h1⟩ := id hf
    obtain ⟨dy, h2⟩ := id hg
    repeat walk_at "rd"
    refine w_fldI h1 T.l_Float T.n_top (flds_t _ _ _) ?_
    repeat walk_at "rd"
    refine w_fldI h2 T.l_Float T.n_top (flds_t _ _ _) ?_
    repeat walk_at "rd"
    refine w_tup2 fun a1 H1 s1 n1 e1 => ?_
    refine w_in e1 rfl (by simp [Fl.flat]) ?_
    have ein : inV (.str "nan") [f.t, g.t] = (isNan f || isNan g) := by
      unfold inV
      simp only [List.any_cons, List.any_nil, Bool.or_false, nan_in1]
    rw [ein]
    unfold ariM at q
    repeat walk_at "rd"
    refine iB (fun z => ?_) (fun z => ?_)
    · rw [if_pos z] at q
      repeat walk_at "rd"
      exact u_nan fun x H' s2 n2 h2 => q x H' (s1.trans s2) h2
    · rw [if_neg (by rw [z]; exact Bool.false_ne_true)] at q
      rw [Bool.or_eq_false_iff] at z
      repeat walk_at "rd"
      refine iD (fun c => ?_) (fun c => ?_)
      · rw [if_pos c] at q
        repeat walk_at "rd"
        exact ⟨a, b, f, g, rfl, hf.same s1, hg.same s1, okf, okg, not_nan z.1, not_nan z.2, fun x H' s2 h2 => q x H' (s1.trans s2) h2⟩
      rw [if_neg c] at q
      repeat walk_at "rd"
      refine iD (fun c2 => ?_) (fun c2 => ?_)
      · rw [if_pos c2] at q
        repeat walk_at "rd"
        refine w_fldI (s1 _ _ h2) T.l_Float T.n_sign (flds_s _ _ _) ?_
        repeat walk_at "rd"
        refine w_fldI (s1 _ _ h2) T.l_Float T.n_top (flds_t _ _ _) ?_
        repeat walk_at "rd"
        refine w_fldI (s1 _ _ h2) T.l_Float T.n_power (flds_p _ _ _) ?_
        repeat walk_at "rd"
        refine u_Float (negM_arg okg (not_nan z.2)) fun x2 H2 s2 n2 k2 => ?_
        repeat walk_at "rd"
        exact ⟨a, x2, f, negM g, rfl, hf.same (s1.trans s2), k2, okf, negM_ok okg, not_nan z.1, negM_nan (not_nan z.2), fun x H' s3 h3 => q x H' (s1.trans (s2.trans s3)) h3⟩
      rw [if_neg c2] at q
      repeat walk_at "rd"
      refine iD (fun c3 => ?_) (fun c3 => ?_)
      · rw [if_pos c3] at q
        repeat walk_at "rd"
        exact ⟨a, b, f, g, rfl, hf.same s1, hg.same s1, okf, okg, not_nan z.1, not_nan z.2, fun x H' s2 h2 => q x H' (s1.trans s2) h2⟩
      rw [if_neg c3] at q
      repeat walk_at "rd"
      refine iD (fun c4 => ?_) (fun c4 => ?_)
      · rw [if_pos c4] at q
        repeat walk_at "rd"
        exact ⟨a, b, f, g, rfl, hf.same s1, hg.same s1, okf, okg, not_nan z.1, not_nan z.2, fun x H' s2 h2 => q x H' (s1.trans s2) h2⟩
      rw [if_neg c4] at q
      repeat walk_at "rd"
      refine ⟨a, b, f, g, rfl, hf.same s1, hg.same s1, okf, okg, not_nan z.1, not_nan z.2, fun x H2 s2 h2 => ?_⟩
      repeat walk_at "rd"
      refine iD (fun c5 => ?_) (fun c5 => ?_)
      · rw [if_pos c5] at q
        repeat walk_at "rd"
        exact ⟨x, _, rfl, h2, divM_ok okf okg, fun y H3 s3 h3 => q y H3 (s1.trans (s2.trans s3)) h3⟩
      · rw [if_neg c5] at q
        repeat walk_at "rd"
        exact q x H2 (s1.trans s2) h2
theorem u_by {wd : Str} {a b : Addr} {f g : Fl} {H : Hp} {Q : VK} {E : XK} (h4 : Four wd) (hf : FlAt CF H a f) (hg : FlAt CF H b g) (okf : f.ok) (okg : g.ok) (q : ∀ x H', Same H H' → FlAt CF H' x (ariM wd f g) → Q (.ref x) H') : spBy CF ([V.str wd, V.ref a, V.ref b] ++ []) H Q E :=
  ⟨wd, a, b, f, g, rfl, h4, hf, hg, okf, okg, q⟩
theorem u_toF {x : V} {n : Nm} {H : Hp} {Q : VK} {E : XK} (h : NmAt CF H x n) (q : ∀ a H', Same H H' → FlAt CF H' a (toF n) → (toF n).ok → Q (.ref a) H') : spToF K CF ([x] ++ []) H Q E := by
  cases n with
  | int i =>
    obtain ⟨rfl, hb⟩ := h
    exact .inr ⟨i, rfl, by omega, fun x H' s1 n1 h1 => q x H' s1 h1 (nearM_ok (sgn_pm i) (abs_nn i) (by decide))⟩
  | fl f =>
    obtain ⟨a, rfl, h, ok⟩ := h
    exact .inl ⟨a, f, rfl, h, q a H (Same.refl H) h ok⟩
def wrapM (n : Int) : Int := (n + 9223372036854775808) % 18446744073709551616 - 9223372036854775808
def spWrap : Sp := fun vs H Q _ => ∃ n, vs = [.int n] ∧ Q (.int (wrapM n)) H
theorem sc_wrapped : FnScope ["number"] ["number"] (defScope s_wrapped) := ⟨rfl, rfl, rfl, by decide +kernel, rfl, by decide +kernel, by decide +kernel⟩
theorem ok_wrapped (T : AllN K mg CF) : Kn P w K mg base CX0 1 "wrapped" ["number"] spWrap := by
  refine T.x_wrapped.kn fun f fd F => ?_
  refine F.ok sc_wrapped (fun vs H Q E h => ?_) (fun cdv A outer s H vs Q E hr h => ?_)
  · obtain ⟨n, rfl, _⟩ := h
    rfl
  · obtain ⟨n, rfl, q⟩ := h
    refine ⟨_, (pss_one (ps_ret (pe_op op_sub (pe_op op_mod (pe_op op_add (pv 0) (pe_op op_pow pe_int pe_int)) (pe_op op_pow pe_int pe_int)) (pe_op op_pow pe_int pe_int)))), ?_⟩
    have e63 : (2 : Int) ^ (63 : Int).toNat = 9223372036854775808 := by decide
    have e64 : (2 : Int) ^ (64 : Int).toNat = 18446744073709551616 := by decide
    unfold wrapM at q
    repeat walk_at "rd"
    refine w_I (cpow (i := 2) (j := 63) (by decide) (by decide) (by decide)) ?_
    rw [e63]
    repeat walk_at "rd"
    refine w_I (cpow (i := 2) (j := 64) (by decide) (by decide) (by decide)) ?_
    rw [e64]
    refine w_I (by decide) ?_
    repeat walk_at "rd"
    refine w_I (cpow (i := 2) (j := 63) (by decide) (by decide) (by decide)) ?_
    rw [e63]
    repeat walk_at "rd"
    exact q
/-- arith where nothing is raised: by floats, or floor and mod of ints -/
def spAri (CF : Addr) : Sp := fun vs H Q _ => ∃ wd x y n m, vs = [.str wd, x, y] ∧ Four wd ∧ NmAt CF H x n ∧ NmAt CF H y m ∧
  (((wd = "div" ∨ isFl n = true ∨ isFl m = true) ∧ ∀ a H', Same H H' → FlAt CF H' a (ariM wd (toF n) (toF m)) → Q (.ref a) H') ∨
   (∃ i j, n = .int i ∧ m = .int j ∧ j ≠ 0 ∧ (wd = "floor" ∨ wd = "mod") ∧ ∀ H', Same H H' → Q (.int (if wd = "floor" then wrapM (i.fdiv j) else i.fmod j)) H'))
theorem sc_arith : FnScope ["word", "one", "other"] ["word", "one", "other"] (defScope s_arith) := ⟨rfl, rfl, rfl, by decide +kernel, rfl, by decide +kernel, by decide +kernel⟩
theorem ok_arith (T : AllN K mg CF) (k_by_floats : Kn P w K mg base CX0 8 "by_floats" ["word", "one", "other"] (spBy CF)) (k_to_float : Kn P w K mg base CX0 6 "to_float" ["number"] (spToF K CF)) (k_wrapped : Kn P w K mg base CX0 1 "wrapped" ["number"] spWrap) : Kn P w K mg base CX0 9 "arith" ["word", "one", "other"] (spAri CF) := by
  refine T.x_arith.kn fun f fd F => ?_
  refine F.ok sc_arith (fun vs H Q E h => ?_) (fun cdv A outer s H vs Q E hr h => ?_)
  · obtain ⟨wd, x, y, n, m, rfl, _⟩ := h
    rfl
  · obtain ⟨wd, x, y, n, m, rfl, h4, hx, hy, q⟩ := h
    refine ⟨_, (pss_cons (ps_if (pt_cmpR op_in_seq (pv 0) (pe_tup (pa_cons pe_str (pa_cons pe_str (pa_cons pe_str (pa_cons pe_str (pa_cons pe_str pa_nil)))))) rfl) (pss_one ps_never) pss_nil)
      (pss_cons (ps_if (PW.pt (pw_or (pt_cmpR op_eq (pv 0) pe_str (nomark _)) (pw_or (pt_val (pe_callB call_isi (by rfl) T.b_isinstance boot_isinstance (pa_cons (pv 1) (pa_cons (pg "Float" T.g_Float (rref _)) pa_nil)))) (pw_or1 (pt_val (pe_callB call_isi (by rfl) T.b_isinstance boot_isinstance (pa_cons (pv 2) (pa_cons (pg "Float" T.g_Float (rref _)) pa_nil)))))))) (pss_one (ps_ret (pk k_by_floats hr (pa_cons (pv 0) (pa_cons (pk k_to_float hr (pa_cons (pv 1) pa_nil)) (pa_cons (pk k_to_float hr (pa_cons (pv 2) pa_nil)) pa_nil)))))) pss_nil)
      (pss_cons (ps_if (pt_cmpR op_in_seq (pv 0) (pe_tup (pa_cons pe_str (pa_cons pe_str pa_nil))) rfl) (pss_cons (ps_if (pt_cmpR op_eq (pv 2) pe_int (nomark _)) (pss_one ps_never) pss_nil)
      (pss_one (ps_ret (pe_ifExp (pt_cmpR op_eq (pv 0) pe_str (nomark _)) (pk k_wrapped hr (pa_cons (pe_op op_fdivZ (pv 1) (pv 2)) pa_nil)) (pe_op op_modN (pv 1) (pv 2)))))) pss_nil)
      (pss_cons ps_never
      (pss_one ps_never))))), ?_⟩
    repeat walk_at "rd"
    refine w_tupI (by show 5 ≤ 1000; decide) fun a1 H1 s1 n1 e1 => ?_
    refine w_in e1 rfl rfl ?_
    rw [four_in h4]
    have hx := hx.same s1
    have hy := hy.same s1
    obtain ⟨p1, f1, ⟨t, ty, i1, i2, i3, i4⟩, _, e4⟩ := hx.says T.toAll
    obtain ⟨p2, f2, ⟨t2, ty2, j1, j2, j3, j4⟩, _, e5⟩ := hy.says T.toAll
    rcases q with ⟨hc, q⟩ | ⟨i, j, rfl, rfl, hj, hw2, q⟩
    · have q : ∀ a H', Same H1 H' → FlAt CF H' a (ariM wd (toF n) (toF m)) → Q (.ref a) H' := fun a H' s => q a H' (s1.trans s)
      repeat walk_at "rd"
      refine iA ?_ (fun c hA => ?_)
      · repeat walk_at "rd"
        refine u_toF hx fun a2 H2 s2 k2 o2 => ?_
        repeat walk_at "rd"
        refine u_toF (hy.same s2) fun a3 H3 s3 k3 o3 => ?_
        repeat walk_at "rd"
        exact u_by h4 (k2.same s3) k3 o2 o3 fun x H' s4 k4 => q x H' (s2.trans (s3.trans s4)) k4
      · repeat walk_at "rd"
        refine w_isi (.own CF) ty i4 ?_
        repeat walk_at "rd"
        refine iAb hA (fun c2 hA => ?_)
        repeat walk_at "rd"
        refine w_isi (.own CF) ty2 j4 ?_
        repeat walk_at "rd"
        refine iAb hA (fun c3 hA => ?_)
        exfalso
        rcases hc with h | h | h
        · exact c h
        · cases n with
          | int i => cases h
          | fl f => rw [e4] at c2; cases c2
        · cases m with
          | int i => cases h
          | fl f => rw [e5] at c3; cases c3
    · obtain ⟨rfl, bi⟩ := hx
      obtain ⟨rfl, bj⟩ := hy
      have e4 : f1 = false := e4
      have e5 : f2 = false := e5
      subst e4
      subst e5
      have wne : ¬ wd = "div" := by rcases hw2 with rfl | rfl <;> decide +kernel
      have hj70 : j.natAbs < 2 ^ 70 := bits_le.1 bj
      repeat walk_at "rd"
      refine iD (fun c => absurd c wne) (fun _ => ?_)
      repeat walk_at "rd"
      refine w_isi (.own CF) ty i4 ?_
      repeat walk_at "rd"
      refine w_isi (.own CF) ty2 j4 ?_
      repeat walk_at "rd"
      refine w_tup2 fun a2 H2 s2 n2 e2 => ?_
      refine w_in e2 rfl rfl ?_
      have q := fun H' s => q H' (s1.trans s)
      have ein : inV (.str wd) [.str "floor", .str "mod"] = true := by rcases hw2 with rfl | rfl <;> decide +kernel
      rw [ein]
      repeat walk_at "rd"
      refine iD (fun c => absurd c hj) (fun _ => ?_)
      repeat walk_at "rd"
      refine iD (fun c => ?_) (fun c => ?_)
      · rw [if_pos c] at q
        repeat walk_at "rd"
        refine w_I (cdivz (i := i) (j := j) hj hj70) ?_
        repeat walk_at "rd"
        exact ⟨_, rfl, q _ s2⟩
      · rw [if_neg c] at q
        repeat walk_at "rd"
        refine w_I (C := fun _ j => j ≠ 0) hj ?_
        exact q _ s2
theorem u_ari {wd : Str} {x y : V} {n m : Nm} {H : Hp} {Q : VK} {E : XK} (h4 : Four wd) (hc : wd = "div" ∨ isFl n = true ∨ isFl m = true) (hx : NmAt CF H x n) (hy : NmAt CF H y m) (q : ∀ a H', Same H H' → FlAt CF H' a (ariM wd (toF n) (toF m)) → Q (.ref a) H') : spAri CF ([V.str wd, x, y] ++ []) H Q E :=
  ⟨wd, x, y, n, m, rfl, h4, hx, hy, .inl ⟨hc, q⟩⟩
theorem u_arI {wd : Str} {i j : Int} {H : Hp} {Q : VK} {E : XK} (hi : bits i ≤ 70) (hj : bits j ≤ 70) (hz : j ≠ 0) (hw : wd = "floor" ∨ wd = "mod") (q : ∀ H', Same H H' → Q (.int (if wd = "floor" then wrapM (i.fdiv j) else i.fmod j)) H') : spAri CF ([V.str wd, V.int i, V.int j] ++ []) H Q E :=
  ⟨wd, .int i, .int j, .int i, .int j, rfl, by rcases hw with rfl | rfl; exact .inr (.inr (.inr (.inr (.inr rfl)))); exact .inr (.inr (.inr (.inr (.inl rfl)))), ⟨rfl, hi⟩, ⟨rfl, hj⟩, .inr ⟨i, j, rfl, rfl, hz, hw, q⟩⟩
end
end Nu

set_option Elab.async false
set_option linter.all false
set_option maxRecDepth 100000
set_option autoImplicit false
set_option maxHeartbeats 4000000
namespace Nu
open PySem PySem.Spec PyProof.Rows L2 Rd
local macro_rules | `(tactic| walk_at "hp") => `(tactic| first | assumption | (refine same_get ?sm ?_; (case sm => assumption); walk_at "hp"))
local macro_rules | `(tactic| walk_at "rd") => `(tactic| first
  | with_reducible refine w_nx ?_
  | with_reducible refine w_rt ?_
  | with_reducible refine w_bk ?_
  | with_reducible refine w_ct ?_
  | with_reducible refine w_seq ?_
  | with_reducible refine w_next ?_
  | with_reducible refine w_ret ?_
  | with_reducible refine w_ifS ?_
  | with_reducible refine w_asg ?_
  | with_reducible refine w_name ?_
  | with_reducible refine w_par ?_
  | with_reducible refine w_parI ?_
  | with_reducible refine w_ii ?_
  | with_reducible refine w_i1 ?_
  | with_reducible refine w_drop ?_
  | with_reducible refine w_sFld ?_
  | ((with_reducible refine' w_var ?rdh ?_); (case rdh => exact rfl))
  | with_reducible refine w_c ?_
  | with_reducible refine w_op ?_
  | with_reducible refine w_un ?_
  | with_reducible refine w_I0 ?_
  | with_reducible refine w_U ?_
  | with_reducible refine w_bits ?_
  | with_reducible refine w_bitsI ?_
  | with_reducible refine w_tup ?_
  | with_reducible refine w_lst ?_
  | with_reducible refine w_nil ?_
  | with_reducible refine w_cons ?_
  | with_reducible refine w_fld ?_
  | with_reducible refine w_call ?_
  | with_reducible refine w_make ?_
  | with_reducible refine w_gsub ?_
  | with_reducible refine w_int1 ?_
  | with_reducible refine w_intB ?_
  | with_reducible refine w_for ?_
  | with_reducible refine w_rng1 ?_
  | with_reducible refine w_iList ?_
  | with_reducible refine w_iTup ?_
  | with_reducible refine w_makeD ?_
  | with_reducible refine w_nn ?_
  | with_reducible refine w_subB ?_
  | with_reducible refine w_meth ?_
  | with_reducible refine w_cb ?_
  | with_reducible refine w_test ?_
  | with_reducible refine w_B ?_
  | with_reducible refine w_bl ?_
  | with_reducible refine w_andV ?_
  | with_reducible refine w_orV ?_
  | with_reducible refine w_notV ?_
  | with_reducible refine w_and ?_
  | with_reducible refine w_or ?_
  | with_reducible refine w_not ?_
  | with_reducible refine w_if ?_
  | with_reducible refine w_gnil ?_
  | with_reducible refine w_gcons ?_
  | with_reducible refine iT ?_
  | with_reducible refine iF ?_
  | with_reducible refine w_eqI ?_
  | with_reducible refine w_neI ?_
  | with_reducible refine w_eqS ?_
  | with_reducible refine w_eqIS ?_
  | with_reducible refine w_eqSI ?_)

abbrev s_law_ratio : Stmt := top 39
abbrev s_law_is_nearest : Stmt := top 40
abbrev s_law_scaled : Stmt := top 41
structure AllO (K : PySem.W.Frag) (mg : Str → Option Value) (CF : Addr) : Prop extends AllN K mg CF where
  x_lratio : Tx K mg "_law_ratio" "_law_ratio" s_law_ratio ["number"]
  x_is_nearest : Tx K mg "_law_is_nearest" "_law_is_nearest" s_law_is_nearest ["found", "sign", "top", "bottom"]
  x_scaled : Tx K mg "_law_scaled" "_law_scaled" s_law_scaled ["number", "power"]
section
variable {P : Program} {w : World} {K : PySem.W.Frag} {mg : Str → Option Value} {base : Heap} {CF : Addr}
/-! ### a finite float without its sign, as a fraction -/
def ratU (t p : Int) : Int := if p < 0 then t else t * 2 ^ p.toNat
theorem ratT_U (s t p : Int) : ratT s t p = s * ratU t p := by
  unfold ratT ratU
  split <;> rfl
theorem ratU_nn {s t p : Int} (h : (Fl.fin s t p).ok) : 0 ≤ ratU t p := by
  have t0 := h.2.1
  unfold ratU
  split
  · exact t0
  · exact Int.mul_nonneg t0 (Int.le_of_lt (pow_pos2 _))
theorem ratU_bits {s t p : Int} (h : (Fl.fin s t p).ok) : bits (ratU t p) ≤ 1025 := by
  obtain ⟨bs, bt, p1, p2, t0, tp⟩ := ok_bounds h
  unfold ratU
  split
  · omega
  · have h2 := bits_mul_pow t0 p.toNat
    omega
def spLRatio (CF : Addr) : Sp := fun vs H Q _ => ∃ a s t p, vs = [.ref a] ∧ FlAt CF H a (.fin s t p) ∧ (Fl.fin s t p).ok ∧ ∀ q H', Same H H' → H' q = some (.tup [.int (ratU t p), .int (ratB p)]) → Q (.ref q) H'
theorem sc_law_ratio : FnScope ["number"] ["number"] (defScope s_law_ratio) := ⟨rfl, rfl, rfl, by decide +kernel, rfl, by decide +kernel, by decide +kernel⟩
theorem ok_lratio (T : AllO K mg CF) : Kn P w K mg base CX0 1 "_law_ratio" ["number"] (spLRatio CF) := by
  refine T.x_lratio.kn fun f fd F => ?_
  refine F.ok sc_law_ratio (fun vs H Q E h => ?_) (fun cdv A outer s H vs Q E hr h => ?_)
  · obtain ⟨a, s, t, p, rfl, _⟩ := h
    rfl
  · obtain ⟨a, s, t, p, rfl, hf, okf, q⟩ := h
    refine ⟨_, (pss_cons (ps_if (pt_cmpR op_lt (pe_fld (pv 0) rfl) pe_int (nomark _)) (pss_one (ps_ret (pe_tup (pa_cons (pe_fld (pv 0) rfl) (pa_cons (pe_op op_shlW pe_int (pe_op op_sub pe_int (pe_fld (pv 0) rfl))) pa_nil))))) pss_nil)
      (pss_one (ps_ret (pe_tup (pa_cons (pe_op op_shlW (pe_fld (pv 0) rfl) (pe_fld (pv 0) rfl)) (pa_cons pe_int pa_nil)))))), ?_⟩
    obtain ⟨dx, h1⟩ := id hf
    obtain ⟨bs, bt, p1, p2, t0, tp⟩ := ok_bounds okf
    repeat walk_at "rd"
    refine w_fldI h1 T.l_Float T.n_power (flds_p _ _ _) ?_
    repeat walk_at "rd"
    refine iD (fun c => ?_) (fun c => ?_)
    · replace c : p < 0 := c
      have eT : ratU t p = t := if_pos c
      have eB : ratB p = 1 * 2 ^ (0 - p).toNat := by rw [Int.one_mul]; exact if_pos c
      rw [eT, eB] at q
      repeat walk_at "rd"
      refine w_fldI h1 T.l_Float T.n_top (flds_t _ _ _) ?_
      repeat walk_at "rd"
      refine w_fldI h1 T.l_Float T.n_power (flds_p _ _ _) ?_
      repeat walk_at "rd"
      refine w_I (cshl (i := 1) (j := 0 - p) (by decide) (by omega) (by omega)) ?_
      repeat walk_at "rd"
      refine w_tup2 fun a1 H1 s1 n1 e1 => ?_
      exact q a1 H1 s1 e1
    · replace c : ¬ p < 0 := c
      have eT : ratU t p = t * 2 ^ p.toNat := if_neg c
      have eB : ratB p = 1 := if_neg c
      rw [eT, eB] at q
      repeat walk_at "rd"
      refine w_fldI h1 T.l_Float T.n_top (flds_t _ _ _) ?_
      repeat walk_at "rd"
      refine w_fldI h1 T.l_Float T.n_power (flds_p _ _ _) ?_
      refine w_I (cshl (i := t) (j := p) (by omega) (by omega) (by omega)) ?_
      repeat walk_at "rd"
      refine w_tup2 fun a1 H1 s1 n1 e1 => ?_
      exact q a1 H1 s1 e1
/-! ### a number times a power of two -/
def spScaled : Sp := fun vs H Q _ => ∃ n e, vs = [.int n, .int e] ∧ bits n ≤ 4000 ∧ -1200 ≤ e ∧ e ≤ 1200 ∧ ∀ q H', Same H H' → H' q = some (.tup [.int (sc n e).1, .int (sc n e).2]) → Q (.ref q) H'
theorem sc_law_scaled : FnScope ["number", "power"] ["number", "power"] (defScope s_law_scaled) := ⟨rfl, rfl, rfl, by decide +kernel, rfl, by decide +kernel, by decide +kernel⟩
theorem ok_scaled (T : AllO K mg CF) : Kn P w K mg base CX0 1 "_law_scaled" ["number", "power"] spScaled := by
  refine T.x_scaled.kn fun f fd F => ?_
  refine F.ok sc_law_scaled (fun vs H Q E h => ?_) (fun cdv A outer s H vs Q E hr h => ?_)
  · obtain ⟨n, e, rfl, _⟩ := h
    rfl
  · obtain ⟨n, e, rfl, hb, e0, e1, q⟩ := h
    refine ⟨_, (pss_one (ps_ret (pe_ifExp (pt_cmpR op_ge (pv 1) pe_int (nomark _)) (pe_tup (pa_cons (pe_op op_shlW (pv 0) (pv 1)) (pa_cons pe_int pa_nil))) (pe_tup (pa_cons (pv 0) (pa_cons (pe_op op_shlW pe_int (pe_op op_sub pe_int (pv 1))) pa_nil)))))), ?_⟩
    unfold sc at q
    repeat walk_at "rd"
    refine iD (fun c => ?_) (fun c => ?_)
    · rw [if_pos c] at q
      repeat walk_at "rd"
      refine w_I (cshl (i := n) (j := e) (by omega) (by omega) (by omega)) ?_
      repeat walk_at "rd"
      exact w_tup2 fun a1 H1 s1 n1 e1 => q a1 H1 s1 e1
    · rw [if_neg c] at q
      repeat walk_at "rd"
      refine w_I (cshl (i := 1) (j := 0 - e) (by decide) (by omega) (by omega)) ?_
      repeat walk_at "rd"
      refine w_tup2 fun a1 H1 s1 n1 e1 => q a1 H1 s1 ?_
      rw [e1, Int.one_mul]
theorem u_scaled {n e : Int} {H : Hp} {Q : VK} {E : XK} (hb : bits n ≤ 4000) (e0 : -1200 ≤ e) (e1 : e ≤ 1200) (q : ∀ q H', Same H H' → H' q = some (.tup [.int (sc n e).1, .int (sc n e).2]) → Q (.ref q) H') : spScaled ([V.int n, V.int e] ++ []) H Q E := ⟨n, e, rfl, hb, e0, e1, q⟩
theorem sc_bits {n e : Int} (hb : bits n ≤ 100) (e0 : -1200 ≤ e) (e1 : e ≤ 1200) : bits (sc n e).1 ≤ 1400 ∧ bits (sc n e).2 ≤ 1400 := by
  unfold sc
  split
  · have h1 := bits_mul n (2 ^ e.toNat)
    have h2 := bits_pow e.toNat
    exact ⟨by show bits (n * 2 ^ e.toNat) ≤ _; omega, by show bits 1 ≤ _; decide⟩
  · exact ⟨by show bits n ≤ _; omega, by show bits (2 ^ (0 - e).toNat) ≤ _; rw [bits_pow]; omega⟩
theorem bits_ab {n : Int} {k : Nat} (h0 : -2 ^ k < n) (h : n < 2 ^ k) : bits n ≤ k := bits_le.2 (by have := pow_cast k; omega)
/-! ### the nearest float is the nearest float -/
def spIsNear (CF : Addr) : Sp := fun vs H Q _ => ∃ a s t b t' b', vs = [.ref a, .int s, .int t, .int b] ∧ (s = 1 ∨ s = -1) ∧ FlAt CF H a (nearM s t' b') ∧ 0 < t ∧ 0 < b ∧ bits t ≤ 2200 ∧ bits b ≤ 2200 ∧ 0 < t' ∧ 0 < b' ∧ bits t' ≤ 2200 ∧ t * b' = t' * b ∧ ∀ H', Same H H' → Q (.bl true) H'
/-- the law's loop -/
structure Lp (m p M Q : Int) (k : Nat) : Prop where
  hM : M = m * 2 ^ k
  hQ : Q = p - k
  hk : k = 0 ∨ (M < 9007199254740992 ∧ -1074 ≤ Q)
theorem sc_law_is_nearest : FnScope ["found", "sign", "top", "bottom", "edge", "many", "power", "over", "under", "high", "low", "above", "below", "is_even"] ["found", "sign", "top", "bottom"] (defScope s_law_is_nearest) := ⟨rfl, rfl, rfl, by decide +kernel, rfl, by decide +kernel, by decide +kernel⟩
theorem ok_is_nearest (T : AllO K mg CF) (k_law_scaled : Kn P w K mg base CX0 1 "_law_scaled" ["number", "power"] spScaled) : Kn P w K mg base CX0 2 "_law_is_nearest" ["found", "sign", "top", "bottom"] (spIsNear CF) := by
  refine T.x_is_nearest.kn fun f fd F => ?_
  refine F.ok sc_law_is_nearest (fun vs H Q E h => ?_) (fun cdv A outer s H vs Q E hr h => ?_)
  · obtain ⟨a, s, t, b, t', b', rfl, _⟩ := h
    rfl
  · obtain ⟨a, s, t, b, t', b', rfl, hs, hf, t0, b0, bt, bb, t0', b0', bt', ee, q⟩ := h
    refine ⟨_, (pss_cons (ps_if (pt_cmpR op_ne (pe_fld (pv 0) rfl) (pv 1) (nomark _)) (pss_one (ps_ret pe_bl)) pss_nil)
      (pss_cons (ps_set (i := 4) sc_law_is_nearest.nd rfl (Or.inl rfl) (pe_op op_sub (pe_op op_shlW pe_int pe_int) (pe_op op_shlW pe_int pe_int)))
      (pss_cons (ps_if (pt_cmpR op_eq (pe_fld (pv 0) rfl) pe_str (nomark _)) (pss_one (ps_ret (pe_cmpR op_ge (pv 2) (pe_op op_mulX (pv 4) (pv 3)) (nomark _)))) pss_nil)
      (pss_cons (ps_if (PW.pt (pw_or (pt_cmpR op_eq (pe_fld (pv 0) rfl) pe_str (nomark _)) (pw_or1 (pt_cmpR op_ge (pv 2) (pe_op op_mulX (pv 4) (pv 3)) (nomark _))))) (pss_one (ps_ret pe_bl)) pss_nil)
      (pss_cons (ps_par (by rfl) sc_law_is_nearest.nd (i := 5) (j := 6) rfl rfl (by decide) rfl rfl (pa_cons (pe_fld (pv 0) rfl) (pa_cons (pe_fld (pv 0) rfl) pa_nil)) (by rfl))
      (C8.pss_cut (ps_while PassesOwn.never (PW.pt (pw_and (pt_cmpR op_gt (pv 5) pe_int (nomark _)) (pw_and (pt_cmpR op_lt (pv 5) (pe_op op_shlW pe_int pe_int) (nomark _)) (pw_and1 (pt_cmpR op_gt (pv 6) (pe_un un_neg pe_int) (nomark _))))))
      (pss_one (ps_par (by rfl) sc_law_is_nearest.nd (i := 5) (j := 6) rfl rfl (by decide) rfl rfl (pa_cons (pe_op op_mulX (pv 5) pe_int) (pa_cons (pe_op op_sub (pv 6) pe_int) pa_nil)) (by rfl))))
      (C8.pss_cut (ps_if (pt_cmpR op_eq (pv 5) pe_int (nomark _)) (pss_one (ps_set (i := 6) sc_law_is_nearest.nd rfl (Or.inl rfl) (pe_un un_neg pe_int))) pss_nil)
      (pss_cons (ps_par (by rfl) sc_law_is_nearest.nd (i := 7) (j := 8) rfl rfl (by decide) rfl rfl (pa_cons (pe_op op_add (pe_op op_mulX pe_int (pv 5)) pe_int) (pa_cons (pe_op op_sub (pe_op op_mulX pe_int (pv 5)) pe_int) pa_nil)) (by rfl))
      (pss_cons (ps_par (by rfl) sc_law_is_nearest.nd (i := 9) (j := 10) rfl rfl (by decide) rfl rfl (pa_cons (pk k_law_scaled hr (pa_cons (pv 7) (pa_cons (pe_op op_sub (pv 6) pe_int) pa_nil))) (pa_cons (pk k_law_scaled hr (pa_cons (pv 8) (pa_cons (pe_op op_sub (pv 6) pe_int) pa_nil))) pa_nil)) (by rfl))
      (C8.pss_cut (ps_if (PW.pt (pw_and (pt_cmpR op_eq (pv 5) (pe_op op_shlW pe_int pe_int) (nomark _)) (pw_and1 (pt_cmpR op_gt (pv 6) (pe_un un_neg pe_int) (nomark _))))) (pss_one (ps_set (i := 10) sc_law_is_nearest.nd rfl (Or.inl rfl) (pk k_law_scaled hr (pa_cons (pe_op op_sub (pe_op op_mulX pe_int (pv 5)) pe_int) (pa_cons (pe_op op_sub (pv 6) pe_int) pa_nil))))) pss_nil)
      (pss_cons (ps_set (i := 11) sc_law_is_nearest.nd rfl (Or.inl rfl) (pe_op op_sub (pe_op op_mulX (pv 2) (pe_ix ix_tup (pv 9) pe_int (fun _ _ => rfl))) (pe_op op_mulX (pe_ix ix_tup (pv 9) pe_int (fun _ _ => rfl)) (pv 3))))
      (pss_cons (ps_set (i := 12) sc_law_is_nearest.nd rfl (Or.inl rfl) (pe_op op_sub (pe_op op_mulX (pv 2) (pe_ix ix_tup (pv 10) pe_int (fun _ _ => rfl))) (pe_op op_mulX (pe_ix ix_tup (pv 10) pe_int (fun _ _ => rfl)) (pv 3))))
      (pss_cons (ps_set (i := 13) sc_law_is_nearest.nd rfl (Or.inl rfl) (pe_cmpR op_eq (pe_op op_mod (pe_callTy call_int1 (by rfl) T.b_int boot_int (pa_cons (pv 5) pa_nil)) pe_int) pe_int (nomark _)))
      (pss_cons (ps_if (PW.pt (pw_or (pt_cmpR op_gt (pv 11) pe_int (nomark _)) (pw_or1 (PW.pt (pw_and (pt_cmpR op_eq (pv 11) pe_int (nomark _)) (pw_and1 (pt_not (pt_val (pv 13))))))))) (pss_one (ps_ret pe_bl)) pss_nil)
      (pss_one (ps_ret (pe_or (pe_cmpR op_gt (pv 12) pe_int (nomark _)) (pe_or (pe_and (pe_cmpR op_eq (pv 12) pe_int (nomark _)) (pe_one (pv 13))) (pe_one (pe_cmpR op_eq (pv 5) pe_int (nomark _))))))))))))))))))))), ?_⟩
    have n := (near_wh t0' b0' (by omega)).cross b0 b0' ee
    have ed := edge n b0
    have nf : nearM s t' b' = if 1024 < bits (wh t' b') + p2 t' b' then .inf s else .fin s (red (wh t' b') (p2 t' b')).1 (red (wh t' b') (p2 t' b')).2 := by
      unfold nearM
      rw [if_neg (by omega)]
    have es : (nearM s t' b').s = s := by
      rw [nf]
      split <;> rfl
    obtain ⟨dx, h1⟩ := id hf
    have e1024 : bits ((1 : Int) * 2 ^ (1024 : Int).toNat - 1 * 2 ^ (970 : Int).toNat) ≤ 1100 := by decide +kernel
    have eE : ((1 : Int) * 2 ^ (1024 : Int).toNat - 1 * 2 ^ (970 : Int).toNat) = 2 ^ 1024 - 2 ^ 970 := by
      rw [Int.one_mul, Int.one_mul]
      rfl
    repeat walk_at "rd"
    refine w_fldI h1 T.l_Float T.n_sign (flds_s _ _ _) ?_
    rw [es]
    repeat walk_at "rd"
    refine iN (fun c => absurd rfl c) (fun _ => ?_)
    repeat walk_at "rd"
    refine w_I (cshl (i := 1) (j := 1024) (by decide) (by decide) (by decide)) ?_
    repeat walk_at "rd"
    refine w_I (cshl (i := 1) (j := 970) (by decide) (by decide) (by decide)) ?_
    refine w_I0 ?_
    rw [eE] at e1024 ⊢
    generalize hE : (2 : Int) ^ 1024 - 2 ^ 970 = Ed at ed e1024 ⊢
    repeat walk_at "rd"
    refine w_fldI h1 T.l_Float T.n_top (flds_t _ _ _) ?_
    repeat walk_at "rd"
    by_cases ci : 1024 < bits (wh t' b') + p2 t' b'
    · rw [if_pos ci] at nf
      rw [nf] at h1 ⊢
      refine w_inf ?_
      repeat walk_at "rd"
      refine iT ?_
      repeat walk_at "rd"
      refine w_I (cmulx (i := Ed) (j := b) (by omega) (by omega)) ?_
      repeat walk_at "rd"
      rw [decide_eq_true (ed.1 ci)]
      exact q H (Same.refl H)
    rw [if_neg ci] at nf
    rw [nf] at h1 ⊢
    have cd : ¬ Ed * b ≤ t := fun h => ci (ed.2 h)
    refine w_inf ?_
    repeat walk_at "rd"
    refine iF ?_
    repeat walk_at "rd"
    refine w_fldI h1 T.l_Float T.n_top (flds_t _ _ _) ?_
    repeat walk_at "rd"
    refine w_nan ?_
    repeat walk_at "rd"
    refine iF ?_
    repeat walk_at "rd"
    refine w_I (cmulx (i := Ed) (j := b) (by omega) (by omega)) ?_
    repeat walk_at "rd"
    refine iD (fun c => absurd c cd) (fun _ => ?_)
    repeat walk_at "rd"
    refine w_fldI h1 T.l_Float T.n_top (flds_t _ _ _) ?_
    repeat walk_at "rd"
    refine w_fldI h1 T.l_Float T.n_power (flds_p _ _ _) ?_
    repeat walk_at "rd"
    have okM := nearM_ok (s := s) (t := t') (b := b') hs (by omega) b0'
    rw [nf] at okM
    obtain ⟨-, bm, pl, pu, m0, mp⟩ := ok_bounds okM
    have mlt : (red (wh t' b') (p2 t' b')).1 < 9007199254740992 := okM.2.2.1
    have e52 : (1 : Int) * 2 ^ (52 : Int).toNat = 4503599627370496 := by decide
    generalize hmm : (red (wh t' b') (p2 t' b')).1 = mm at *
    generalize hpp : (red (wh t' b') (p2 t' b')).2 = pp at *
    refine w_cut (Mid := fun σ' H' => H' = H ∧ ∃ M Q k, σ' = [some (.ref a), some (.int s), some (.int t), some (.int b), some (.int Ed), some (.int M), some (.int Q), none, none, none, none, none, none, none] ∧ Lp mm pp M Q k ∧ ¬ (0 < M ∧ M < 4503599627370496 ∧ -1074 < Q)) ?_ ?_
    · refine w_while (fun m σ' H' => H' = H ∧ ∃ M Q k, σ' = [some (.ref a), some (.int s), some (.int t), some (.int b), some (.int Ed), some (.int M), some (.int Q), none, none, none, none, none, none, none] ∧ Lp mm pp M Q k ∧ m = (Q + 1074).toNat) ⟨rfl, mm, pp, 0, rfl, ⟨by rw [Int.pow_zero, Int.mul_one], by omega, .inl rfl⟩, rfl⟩ ?_
      rintro m σ' H' ⟨rfl, M, Q1, k, rfl, lp, rfl⟩
      have fin : ¬ (0 < M ∧ M < 4503599627370496 ∧ -1074 < Q1) → H' = H' ∧ ∃ M' Q' k', [some (V.ref a), some (.int s), some (.int t), some (.int b), some (.int Ed), some (.int M), some (.int Q1), none, none, none, none, none, none, none] = [some (V.ref a), some (.int s), some (.int t), some (.int b), some (.int Ed), some (.int M'), some (.int Q'), none, none, none, none, none, none, none] ∧ Lp mm pp M' Q' k' ∧ ¬ (0 < M' ∧ M' < 4503599627370496 ∧ -1074 < Q') := fun h => ⟨rfl, M, Q1, k, rfl, lp, h⟩
      repeat walk_at "rd"
      refine iD (fun c1 => ?_) (fun c1 => ?_)
      · repeat walk_at "rd"
        refine w_I (cshl (i := 1) (j := 52) (by decide) (by decide) (by decide)) ?_
        rw [e52]
        repeat walk_at "rd"
        refine iD (fun c2 => ?_) (fun c2 => ?_)
        · repeat walk_at "rd"
          refine iD (fun c3 => ?_) (fun c3 => ?_)
          · refine w_turn ?_
            repeat walk_at "rd"
            refine w_I (cmulS (i := M) (j := 2) (by omega) (by decide)) ?_
            repeat walk_at "rd"
            refine ⟨(Q1 - 1 + 1074).toNat, by omega, rfl, M * 2, Q1 - 1, k + 1, rfl, ⟨?_, by have := lp.hQ; omega, .inr ⟨by omega, by omega⟩⟩, rfl⟩
            rw [lp.hM, Int.pow_succ, Int.mul_assoc]
          · repeat walk_at "rd"
            exact fin (by omega)
        · repeat walk_at "rd"
          exact fin (by omega)
      · repeat walk_at "rd"
        exact fin (by omega)
    rintro σ' H' ⟨rfl, M, Q1, k, rfl, lp, hst⟩
    have pk := pow_pos2 k
    have M0 : 0 ≤ M := by rw [lp.hM]; exact Int.mul_nonneg m0 (Int.le_of_lt pk)
    have M1 : M < 9007199254740992 := by
      rcases lp.hk with h | h
      · have := lp.hM
        rw [h, Int.pow_zero, Int.mul_one] at this
        omega
      · exact h.1
    have Q0 : -1074 ≤ Q1 := by
      rcases lp.hk with h | h
      · have := lp.hQ
        rw [h] at this
        omega
      · exact h.2
    have Qu : Q1 ≤ 1023 := by have := lp.hQ; omega
    refine w_cut (Mid := fun σ' H2 => H2 = H' ∧ ∃ Q2, σ' = [some (.ref a), some (.int s), some (.int t), some (.int b), some (.int Ed), some (.int M), some (.int Q2), none, none, none, none, none, none, none] ∧ NearL t b M Q2 ∧ -1074 ≤ Q2 ∧ Q2 ≤ 1023) ?_ ?_
    · have W0 := n.w0
      rcases Int.lt_or_eq_of_le W0 with hW | hW
      · have nl : NearL t b M Q1 := near_law n b0 hW (by rw [hmm]; exact lp.hM) (by rw [hpp]; exact lp.hQ) lp.hk hst
        repeat walk_at "rd"
        refine iD (fun c => ?_) (fun c => ?_)
        · exfalso
          obtain ⟨k2, m2, h1, h2, h3⟩ := red_spec hW (p2 t' b')
          rw [h3] at hmm
          have := Int.mul_pos (show 0 < mm by rw [← hmm]; show 0 < 2 * m2 + 1; omega) pk
          have := lp.hM
          omega
        · repeat walk_at "rd"
          exact ⟨rfl, Q1, rfl, nl, Q0, Qu⟩
      · have hm0 : mm = 0 := by rw [← hmm, ← hW, red_zero]
        have hM0 : M = 0 := by rw [lp.hM, hm0, Int.zero_mul]
        subst hM0
        rw [← hW] at n
        have nl := near_zero n b0
        repeat walk_at "rd"
        refine iD (fun c => ?_) (fun c => absurd rfl c)
        repeat walk_at "rd"
        exact ⟨rfl, -1074, rfl, nl, by decide, by decide⟩
    rintro σ' H2 ⟨rfl, Q2, rfl, nl, Q20, Q2u⟩
    have p53 : (2 : Int) ^ 60 = 1152921504606846976 := by decide
    have bo : bits (2 * M + 1) ≤ 60 := bits_ab (k := 60) (by omega) (by omega)
    have bu : bits (2 * M - 1) ≤ 60 := bits_ab (k := 60) (by omega) (by omega)
    have b4 : bits (4 * M - 1) ≤ 60 := bits_ab (k := 60) (by omega) (by omega)
    repeat walk_at "rd"
    refine w_I (cmulS (i := 2) (j := M) (by decide) (by omega)) ?_
    repeat walk_at "rd"
    refine w_I (cmulS (i := 2) (j := M) (by decide) (by omega)) ?_
    repeat walk_at "rd"
    refine u_scaled (by omega) (by omega) (by omega) fun q1 H3 s3 e3 => ?_
    repeat walk_at "rd"
    refine u_scaled (by omega) (by omega) (by omega) fun q2 H4 s4 e4 => ?_
    have e3 := s4 _ _ e3
    have S4 := s3.trans s4
    repeat walk_at "rd"
    have bh := sc_bits (n := 2 * M + 1) (e := Q2 - 1) (by omega) (by omega) (by omega)
    have bl := sc_bits (n := 2 * M - 1) (e := Q2 - 1) (by omega) (by omega) (by omega)
    have bl4 := sc_bits (n := 4 * M - 1) (e := Q2 - 2) (by omega) (by omega) (by omega)
    refine w_cut (Mid := fun σ' H5 => Same H4 H5 ∧ ∃ q3 l0 l1, σ' = [some (.ref a), some (.int s), some (.int t), some (.int b), some (.int Ed), some (.int M), some (.int Q2), some (.int (2 * M + 1)), some (.int (2 * M - 1)), some (.ref q1), some (.ref q3), none, none, none] ∧ H5 q3 = some (.tup [.int l0, .int l1]) ∧ bits l0 ≤ 1400 ∧ bits l1 ≤ 1400 ∧ (0 < t * l1 - l0 * b ∨ (t * l1 - l0 * b = 0 ∧ M % 2 = 0) ∨ M = 0)) ?_ ?_
    · have fin0 : ¬ (M = 4503599627370496 ∧ -1074 < Q2) → Same H4 H4 ∧ ∃ q3 l0 l1, [some (V.ref a), some (.int s), some (.int t), some (.int b), some (.int Ed), some (.int M), some (.int Q2), some (.int (2 * M + 1)), some (.int (2 * M - 1)), some (.ref q1), some (.ref q2), none, none, none] = [some (V.ref a), some (.int s), some (.int t), some (.int b), some (.int Ed), some (.int M), some (.int Q2), some (.int (2 * M + 1)), some (.int (2 * M - 1)), some (.ref q1), some (.ref q3), none, none, none] ∧ H4 q3 = some (.tup [.int l0, .int l1]) ∧ bits l0 ≤ 1400 ∧ bits l1 ≤ 1400 ∧ (0 < t * l1 - l0 * b ∨ (t * l1 - l0 * b = 0 ∧ M % 2 = 0) ∨ M = 0) := fun h => ⟨Same.refl _, q2, _, _, rfl, e4, bl.1, bl.2, nl.l' h⟩
      repeat walk_at "rd"
      refine w_I (cshl (i := 1) (j := 52) (by decide) (by decide) (by decide)) ?_
      rw [e52]
      repeat walk_at "rd"
      refine iD (fun c1 => ?_) (fun c1 => ?_)
      · repeat walk_at "rd"
        refine iD (fun c2 => ?_) (fun c2 => ?_)
        · repeat walk_at "rd"
          refine w_I (cmulS (i := 4) (j := M) (by decide) (by omega)) ?_
          repeat walk_at "rd"
          refine u_scaled (by omega) (by omega) (by omega) fun q5 H5 s5 e5 => ?_
          repeat walk_at "rd"
          exact ⟨s5, q5, _, _, rfl, e5, bl4.1, bl4.2, nl.l ⟨c1, c2⟩⟩
        · repeat walk_at "rd"
          exact fin0 (fun h => c2 h.2)
      · repeat walk_at "rd"
        exact fin0 (fun h => c1 h.1)
    rintro σ' H5 ⟨s5, q3, l0, l1, rfl, e5, b0', b1', hl⟩
    have e3 := s5 _ _ e3
    have q : Q (.bl true) H5 := q H5 (S4.trans s5)
    repeat walk_at "rd"
    refine w_ixT e3 (v := .int (sc (2 * M + 1) (Q2 - 1)).2) rfl ?_
    refine w_I (cmulx (i := t) (j := (sc (2 * M + 1) (Q2 - 1)).2) (by omega) (by omega)) ?_
    repeat walk_at "rd"
    refine w_ixT e3 (v := .int (sc (2 * M + 1) (Q2 - 1)).1) rfl ?_
    repeat walk_at "rd"
    refine w_I (cmulx (i := (sc (2 * M + 1) (Q2 - 1)).1) (j := b) (by omega) (by omega)) ?_
    repeat walk_at "rd"
    refine w_ixT e5 (v := .int l1) rfl ?_
    refine w_I (cmulx (i := t) (j := l1) (by omega) (by omega)) ?_
    repeat walk_at "rd"
    refine w_ixT e5 (v := .int l0) rfl ?_
    repeat walk_at "rd"
    refine w_I (cmulx (i := l0) (j := b) (by omega) (by omega)) ?_
    repeat walk_at "rd"
    refine w_I (show (0 : Int) < 2 by decide) ?_
    repeat walk_at "rd"
    refine iD (fun c => absurd c nl.a) (fun _ => ?_)
    have last : ∀ (Q9 : VK), Q9 (.bl true) H5 → tOrV (tOp (rI0 fun i j => V.bl (decide (j < i))) (tVar 12) (tC (V.int 0))) (tOrV (tAndV (tOp rEq (tVar 12) (tC (V.int 0))) (tVar 13)) (tOp rEq (tVar 5) (tC (V.int 0)))) [some (V.ref a), some (.int s), some (.int t), some (.int b), some (.int Ed), some (.int M), some (.int Q2), some (.int (2 * M + 1)), some (.int (2 * M - 1)), some (.ref q1), some (.ref q3), some (V.int (t * (sc (2 * M + 1) (Q2 - 1)).2 - (sc (2 * M + 1) (Q2 - 1)).1 * b)), some (V.int (t * l1 - l0 * b)), some (V.bl (decide (M % 2 = 0)))] H5 Q9 := by
      intro Q9 q9
      repeat walk_at "rd"
      refine iA q9 (fun c hA => ?_)
      repeat walk_at "rd"
      rcases hl with h | ⟨h1, h2⟩ | h
      · exact absurd h c
      · rw [decide_eq_true h1]
        repeat walk_at "rd"
        rw [decide_eq_true h2]
        repeat walk_at "rd"
        exact hA
      · refine iD (fun c1 => ?_) (fun c1 => ?_)
        · repeat walk_at "rd"
          refine iA hA (fun c2 hB => ?_)
          repeat walk_at "rd"
          rw [decide_eq_true h]
          exact hA
        · repeat walk_at "rd"
          rw [decide_eq_true h]
          exact hA
    repeat walk_at "rd"
    refine iD (fun c => ?_) (fun c => ?_)
    · rw [decide_eq_true (nl.ae c)] at last ⊢
      repeat walk_at "rd"
      exact last _ q
    · first
        | exact iF (last _ q)
        | exact last _ q
        | (refine iF ?_; refine iF ?_; exact last _ q)
end
end Nu

set_option Elab.async false
set_option linter.all false
set_option maxRecDepth 100000
set_option autoImplicit false
set_option maxHeartbeats 4000000
namespace Rd
open PySem PySem.Spec PyProof.Rows L2
section
variable {σ : L2.St} {H : Hp}
def XfK (a : Addr) (cls : Value) (d : Option Addr) (C : Addr) (f : Str) (x : V) (H1 : Hp) (Q : VK) : Prop := x = .ref a ∧ cls = .ref C ∧ ∃ (dd : Addr) (fs : List (Str × V)) (v : V), d = some dd ∧ H1 dd = some (.xd fs) ∧ fs.lookup f = some v ∧ Q v H1
theorem w_xf {a : Addr} {cls : Value} {d : Option Addr} {C : Addr} {f : Str} {te : TE} {Q : VK} (h : te σ H fun x H1 => XfK a cls d C f x H1 Q) : tXf a cls d C f te σ H Q := h
theorem w_xfI {a dd C : Addr} {f : Str} {fs : List (Str × V)} {v : V} {Q : VK} (e : H dd = some (.xd fs)) (l : fs.lookup f = some v) (q : Q v H) : XfK a (.ref C) (some dd) C f (.ref a) H Q := ⟨rfl, rfl, dd, fs, v, rfl, e, l, q⟩
theorem thr_value (v : V) : (thrFs v).lookup ("value" : Str) = some v := by
  have h : (("value" : Str) == ("level" : Str)) = false := by decide +kernel
  simp [thrFs, List.lookup, h]
end
end Rd
namespace Nu
open PySem PySem.Spec PyProof.Rows L2 Rd
local macro_rules | `(tactic| walk_at "hp") => `(tactic| first | assumption | (refine same_get ?sm ?_; (case sm => assumption); walk_at "hp"))
local macro_rules | `(tactic| walk_at "rd") => `(tactic| first
  | with_reducible refine w_nx ?_
  | with_reducible refine w_rt ?_
  | with_reducible refine w_bk ?_
  | with_reducible refine w_ct ?_
  | with_reducible refine w_seq ?_
  | with_reducible refine w_next ?_
  | with_reducible refine w_ret ?_
  | with_reducible refine w_ifS ?_
  | with_reducible refine w_asg ?_
  | with_reducible refine w_name ?_
  | with_reducible refine w_par ?_
  | with_reducible refine w_parI ?_
  | with_reducible refine w_ii ?_
  | with_reducible refine w_i1 ?_
  | with_reducible refine w_drop ?_
  | with_reducible refine w_sFld ?_
  | ((with_reducible refine' w_var ?rdh ?_); (case rdh => exact rfl))
  | with_reducible refine w_c ?_
  | with_reducible refine w_op ?_
  | with_reducible refine w_un ?_
  | with_reducible refine w_I0 ?_
  | with_reducible refine w_U ?_
  | with_reducible refine w_bits ?_
  | with_reducible refine w_bitsI ?_
  | with_reducible refine w_tup ?_
  | with_reducible refine w_lst ?_
  | with_reducible refine w_nil ?_
  | with_reducible refine w_cons ?_
  | with_reducible refine w_fld ?_
  | with_reducible refine w_call ?_
  | with_reducible refine w_make ?_
  | with_reducible refine w_gsub ?_
  | with_reducible refine w_int1 ?_
  | with_reducible refine w_intB ?_
  | with_reducible refine w_for ?_
  | with_reducible refine w_rng1 ?_
  | with_reducible refine w_iList ?_
  | with_reducible refine w_iTup ?_
  | with_reducible refine w_makeD ?_
  | with_reducible refine w_nn ?_
  | with_reducible refine w_subB ?_
  | with_reducible refine w_meth ?_
  | with_reducible refine w_cb ?_
  | with_reducible refine w_test ?_
  | with_reducible refine w_B ?_
  | with_reducible refine w_bl ?_
  | with_reducible refine w_andV ?_
  | with_reducible refine w_orV ?_
  | with_reducible refine w_notV ?_
  | with_reducible refine w_and ?_
  | with_reducible refine w_or ?_
  | with_reducible refine w_not ?_
  | with_reducible refine w_if ?_
  | with_reducible refine w_gnil ?_
  | with_reducible refine w_gcons ?_
  | with_reducible refine iT ?_
  | with_reducible refine iF ?_
  | with_reducible refine w_eqI ?_
  | with_reducible refine w_neI ?_
  | with_reducible refine w_eqS ?_
  | with_reducible refine w_eqIS ?_
  | with_reducible refine w_eqSI ?_)

abbrev s_law_said : Stmt := top 42
abbrev s_Thrown_init : Stmt := inClass (top 5) 0
structure AllE (K : PySem.W.Frag) (mg : Str → Option Value) (CF CE : Addr) : Prop extends AllN K mg CF where
  b_AE : mg "ArithmeticError" = none
  v_AE : PySem.W.findCls K (.type "ArithmeticError") (.type "type") "__init__" = some (.val (.builtin "ArithmeticError.__init__"))
  g_Thrown : mg "Thrown" = some (.ref CE)
  a_Thrown : AexC K CE
  xf_Thrown : XfC K CE
  xn_value : PySem.W.findIn K (.ref CE) "value" = some none
  xn_level : PySem.W.findIn K (.ref CE) "level" = some none
  e_Thrown : PySem.W.exmOne K (.ref CE) (.ref CE) = some true
  x_said : Tx K mg "_law_said" "_law_said" s_law_said ["word", "one", "other"]
/-- the way out by an error that tells msg -/
def ErrK (CE : Addr) (msg : Str) (H : Hp) (E : XK) : Prop := ∀ d H', Same H H' → H' d = some (.xd (thrFs (.str msg))) → E (.ref CE) (some d) H'
def errOf (wd : Str) : Str := if wd = "floor" then "attempt to perform 'n//0'" else "attempt to perform 'n mod 0'"
section
variable {P : Program} {w : World} {K : PySem.W.Frag} {mg : Str → Option Value} {base : Heap} {CF CE : Addr}
def Three (wd : Str) (i j r : Int) : Prop := (wd = "add" ∧ r = wrapM (i + j)) ∨ (wd = "sub" ∧ r = wrapM (i - j)) ∨ (wd = "mul" ∧ r = wrapM (i * j))
def spAriX (CE : Addr) : Sp := fun vs H Q E => ∃ (wd : Str) (i j : Int), vs = [.str wd, .int i, .int j] ∧ bits i ≤ 70 ∧ bits j ≤ 70 ∧
  ((∃ r, Three wd i j r ∧ ∀ H', Same H H' → Q (.int r) H') ∨ ((wd = "floor" ∨ wd = "mod") ∧ j = 0 ∧ ErrK CE (errOf wd) H E))
theorem ErrK.same {CE : Addr} {m : Str} {H H1 : Hp} {E : XK} (h : ErrK CE m H E) (s : Same H H1) : ErrK CE m H1 E := fun d H' s1 e => h d H' (s.trans s1) e
theorem ok_arithX (T : AllE K mg CF CE) (k_Thrown : KnTh P w K mg base CE) (k_wrapped : Kn P w K mg base CX0 1 "wrapped" ["number"] spWrap) : Kn P w K mg base (L2.CX P w) 4 "arith" ["word", "one", "other"] (spAriX CE) := by
  refine T.x_arith.kn fun f fd F => ?_
  refine F.okX sc_arith (fun vs H Q E h => ?_) (fun cdv A outer s H vs Q E hr h => ?_)
  · obtain ⟨wd, i, j, rfl, _⟩ := h
    rfl
  · obtain ⟨wd, i, j, rfl, bi, bj, q⟩ := h
    refine ⟨_, (pss_cons (ps_if (pt_cmpR op_in_seq (pv 0) (pe_tup (pa_cons pe_str (pa_cons pe_str (pa_cons pe_str (pa_cons pe_str (pa_cons pe_str pa_nil)))))) rfl) (pss_one ps_never) pss_nil)
      (pss_cons (ps_if (PW.pt (pw_or (pt_cmpR op_eq (pv 0) pe_str (nomark _)) (pw_or (pt_val (pe_callB call_isi (by rfl) T.b_isinstance boot_isinstance (pa_cons (pv 1) (pa_cons (pg "Float" T.g_Float (rref _)) pa_nil)))) (pw_or1 (pt_val (pe_callB call_isi (by rfl) T.b_isinstance boot_isinstance (pa_cons (pv 2) (pa_cons (pg "Float" T.g_Float (rref _)) pa_nil)))))))) (pss_one ps_never) pss_nil)
      (pss_cons (ps_if (pt_cmpR op_in_seq (pv 0) (pe_tup (pa_cons pe_str (pa_cons pe_str pa_nil))) rfl) (pss_cons (ps_if (pt_cmpR op_eq (pv 2) pe_int (nomark _)) (pss_one (ps_thr rfl k_Thrown hr (takes_of rfl rfl rfl rfl) (pa_cons (pe_ifExp (pt_cmpR op_eq (pv 0) pe_str (nomark _)) pe_str pe_str) pa_nil))) pss_nil)
      (pss_one ps_never)) pss_nil)
      (pss_cons (ps_if (pt_cmpR op_eq (pv 0) pe_str (nomark _)) (pss_one (ps_ret (pk k_wrapped hr (pa_cons (pe_op op_mulX (pv 1) (pv 2)) pa_nil)))) pss_nil)
      (pss_one (ps_ret (pk k_wrapped hr (pa_cons (pe_ifExp (pt_cmpR op_eq (pv 0) pe_str (nomark _)) (pe_op op_add (pv 1) (pv 2)) (pe_op op_sub (pv 1) (pv 2))) pa_nil)))))))), ?_⟩
    obtain ⟨t, ty, i1, i2, i3, i4⟩ := says_int (i := i) (H := H) T.toAll
    have hin : inV (.str wd) [.str "band", .str "bor", .str "bxor", .str "shl", .str "shr"] = false := by
      rcases q with ⟨r, (⟨rfl, _⟩ | ⟨rfl, _⟩ | ⟨rfl, _⟩), _⟩ | ⟨(rfl | rfl), _⟩ <;> decide +kernel
    have hnd : ¬ wd = "div" := by
      rcases q with ⟨r, (⟨rfl, _⟩ | ⟨rfl, _⟩ | ⟨rfl, _⟩), _⟩ | ⟨(rfl | rfl), _⟩ <;> decide +kernel
    repeat walk_at "rd"
    refine w_tupI (by show 5 ≤ 1000; decide) fun a1 H1 s1 n1 e1 => ?_
    refine w_in e1 rfl rfl ?_
    rw [hin]
    obtain ⟨t, ty, i1, i2, i3, i4⟩ := says_int (i := i) (H := H1) T.toAll
    obtain ⟨t2, ty2, j1, j2, j3, j4⟩ := says_int (i := j) (H := H1) T.toAll
    repeat walk_at "rd"
    refine iD (fun c => absurd c hnd) (fun _ => ?_)
    repeat walk_at "rd"
    refine w_isi (.own CF) ty i4 ?_
    repeat walk_at "rd"
    refine w_isi (.own CF) ty2 j4 ?_
    repeat walk_at "rd"
    refine w_tup2 fun a2 H2 s2 n2 e2 => ?_
    refine w_in e2 rfl rfl ?_
    rcases q with ⟨r, h3, q⟩ | ⟨hw2, rfl, q⟩
    · have ein : inV (.str wd) [.str "floor", .str "mod"] = false := by rcases h3 with ⟨rfl, _⟩ | ⟨rfl, _⟩ | ⟨rfl, _⟩ <;> decide +kernel
      rw [ein]
      have q := q _ (s1.trans s2)
      repeat walk_at "rd"
      refine iD (fun c => ?_) (fun c => ?_)
      · have hr : r = wrapM (i * j) := by
          rcases h3 with ⟨rfl, _⟩ | ⟨rfl, _⟩ | ⟨rfl, h⟩
          · exact absurd c (by decide +kernel)
          · exact absurd c (by decide +kernel)
          · exact h
        rw [hr] at q
        repeat walk_at "rd"
        refine w_I (cmulx (i := i) (j := j) (by omega) (by omega)) ?_
        repeat walk_at "rd"
        exact ⟨_, rfl, q⟩
      · repeat walk_at "rd"
        refine iD (fun c2 => ?_) (fun c2 => ?_)
        · have hr : r = wrapM (i + j) := by
            rcases h3 with ⟨rfl, h⟩ | ⟨rfl, _⟩ | ⟨rfl, _⟩
            · exact h
            · exact absurd c2 (by decide +kernel)
            · exact absurd rfl c
          rw [hr] at q
          repeat walk_at "rd"
          exact ⟨_, rfl, q⟩
        · have hr : r = wrapM (i - j) := by
            rcases h3 with ⟨rfl, _⟩ | ⟨rfl, h⟩ | ⟨rfl, _⟩
            · exact absurd rfl c2
            · exact h
            · exact absurd rfl c
          rw [hr] at q
          repeat walk_at "rd"
          exact ⟨_, rfl, q⟩
    · have ein : inV (.str wd) [.str "floor", .str "mod"] = true := by rcases hw2 with rfl | rfl <;> decide +kernel
      rw [ein]
      have q := q.same (s1.trans s2)
      unfold errOf at q
      repeat walk_at "rd"
      refine iD (fun c => ?_) (fun c => absurd rfl c)
      refine w_thr ?_
      repeat walk_at "rd"
      refine iD (fun c => ?_) (fun c => ?_)
      · rw [if_pos c] at q
        repeat walk_at "rd"
        exact w_thrI fun d H' s3 n3 e3 => q d H' s3 e3
      · rw [if_neg c] at q
        repeat walk_at "rd"
        exact w_thrI fun d H' s3 n3 e3 => q d H' s3 e3
/-- what is said: the int, or the error's text in a list -/
def spSaid : Sp := fun vs H Q _ => ∃ (wd : Str) (i j : Int), vs = [.str wd, .int i, .int j] ∧ bits i ≤ 70 ∧ bits j ≤ 70 ∧
  ((∃ r, Three wd i j r ∧ ∀ H', Same H H' → Q (.int r) H') ∨ ((wd = "floor" ∨ wd = "mod") ∧ j = 0 ∧ ∀ p H', Same H H' → H' p = some (.lst [.str (errOf wd)]) → Q (.ref p) H'))
theorem sc_law_said : FnScope ["word", "one", "other", "e"] ["word", "one", "other"] (defScope s_law_said) := ⟨rfl, rfl, rfl, by decide +kernel, rfl, by decide +kernel, by decide +kernel⟩
theorem ok_said (T : AllE K mg CF CE) (k_arith : Kn P w K mg base (L2.CX P w) 4 "arith" ["word", "one", "other"] (spAriX CE)) : Kn P w K mg base CX0 5 "_law_said" ["word", "one", "other"] spSaid := by
  refine T.x_said.kn fun f fd F => ?_
  refine F.ok sc_law_said (fun vs H Q E h => ?_) (fun cdv A outer s H vs Q E hr h => ?_)
  · obtain ⟨wd, i, j, rfl, _⟩ := h
    rfl
  · obtain ⟨wd, i, j, rfl, bi, bj, q⟩ := h
    refine ⟨_, (pss_one (ps_try_as (i := 3) rfl rfl sc_law_said.nd rfl rfl ⟨rfl, by decide, Or.inl T.g_Thrown⟩ takes0 (fun W pn xe tk _ => (pss_one (ps_ret (pkX k_arith hr tk (pa_cons (pv 0) (pa_cons (pv 1) (pa_cons (pv 2) pa_nil))))))) (fun a oe cls d pn hz hf => (pss_one (ps_ret (pe_lst (pa_cons (pe_xf T.xf_Thrown T.xn_value hz hf (pv 3)) pa_nil))))))), ?_⟩
    repeat walk_at "rd"
    refine w_callS ?_
    repeat walk_at "rd"
    refine ⟨wd, i, j, rfl, bi, bj, ?_⟩
    rcases q with ⟨r, h3, q⟩ | ⟨hw2, hj, q⟩
    · exact .inl ⟨r, h3, q⟩
    · refine .inr ⟨hw2, hj, fun d H1 s1 e1 => ⟨true, T.e_Thrown, fun _ a0 ha0 => ?_, fun z => nomatch z⟩⟩
      repeat walk_at "rd"
      refine w_xf ?_
      repeat walk_at "rd"
      refine w_xfI e1 (thr_value _) ?_
      repeat walk_at "rd"
      exact w_lst1 fun p H2 s2 n2 h2 => q p H2 (s1.trans s2) h2
end
end Nu

set_option Elab.async false
set_option linter.all false
set_option maxRecDepth 100000
set_option autoImplicit false
set_option maxHeartbeats 4000000
namespace Nu
open PySem PySem.Spec PyProof.Rows L2 Rd
local macro_rules | `(tactic| walk_at "hp") => `(tactic| first | assumption | (refine same_get ?sm ?_; (case sm => assumption); walk_at "hp"))
local macro_rules | `(tactic| walk_at "rd") => `(tactic| first
  | with_reducible refine w_nx ?_
  | with_reducible refine w_rt ?_
  | with_reducible refine w_bk ?_
  | with_reducible refine w_ct ?_
  | with_reducible refine w_seq ?_
  | with_reducible refine w_next ?_
  | with_reducible refine w_ret ?_
  | with_reducible refine w_ifS ?_
  | with_reducible refine w_asg ?_
  | with_reducible refine w_name ?_
  | with_reducible refine w_par ?_
  | with_reducible refine w_parI ?_
  | with_reducible refine w_ii ?_
  | with_reducible refine w_i1 ?_
  | with_reducible refine w_drop ?_
  | with_reducible refine w_sFld ?_
  | ((with_reducible refine' w_var ?rdh ?_); (case rdh => exact rfl))
  | with_reducible refine w_c ?_
  | with_reducible refine w_op ?_
  | with_reducible refine w_un ?_
  | with_reducible refine w_I0 ?_
  | with_reducible refine w_U ?_
  | with_reducible refine w_bits ?_
  | with_reducible refine w_bitsI ?_
  | with_reducible refine w_tup ?_
  | with_reducible refine w_lst ?_
  | with_reducible refine w_nil ?_
  | with_reducible refine w_cons ?_
  | with_reducible refine w_fld ?_
  | with_reducible refine w_call ?_
  | with_reducible refine w_make ?_
  | with_reducible refine w_gsub ?_
  | with_reducible refine w_int1 ?_
  | with_reducible refine w_intB ?_
  | with_reducible refine w_for ?_
  | with_reducible refine w_rng1 ?_
  | with_reducible refine w_iList ?_
  | with_reducible refine w_iTup ?_
  | with_reducible refine w_makeD ?_
  | with_reducible refine w_nn ?_
  | with_reducible refine w_subB ?_
  | with_reducible refine w_meth ?_
  | with_reducible refine w_cb ?_
  | with_reducible refine w_test ?_
  | with_reducible refine w_B ?_
  | with_reducible refine w_bl ?_
  | with_reducible refine w_andV ?_
  | with_reducible refine w_orV ?_
  | with_reducible refine w_notV ?_
  | with_reducible refine w_and ?_
  | with_reducible refine w_or ?_
  | with_reducible refine w_not ?_
  | with_reducible refine w_if ?_
  | with_reducible refine w_gnil ?_
  | with_reducible refine w_gcons ?_
  | with_reducible refine iT ?_
  | with_reducible refine iF ?_
  | with_reducible refine w_eqI ?_
  | with_reducible refine w_neI ?_
  | with_reducible refine w_eqS ?_
  | with_reducible refine w_eqIS ?_
  | with_reducible refine w_eqSI ?_)

abbrev s_law_wrapped : Stmt := top 43
abbrev s_law_int : Stmt := top 44
abbrev s_law_ints_right : Stmt := top 45
abbrev s_law_floor_right : Stmt := top 46
abbrev s_law_mod_right : Stmt := top 47
abbrev s_law : Stmt := top 48
structure AllV (K : PySem.W.Frag) (mg : Str → Option Value) (CF CE : Addr) : Prop extends AllE K mg CF CE, AllO K mg CF where
  x_lwrapped : Tx K mg "_law_wrapped" "_law_wrapped" s_law_wrapped ["number"]
  x_int : Tx K mg "_law_int" "_law_int" s_law_int ["well"]
  x_ints_right : Tx K mg "_law_ints_right" "_law_ints_right" s_law_ints_right ["one", "other"]
  x_floor_right : Tx K mg "_law_floor_right" "_law_floor_right" s_law_floor_right ["one", "other"]
  x_mod_right : Tx K mg "_law_mod_right" "_law_mod_right" s_law_mod_right ["one", "other"]
  x_law : Tx K mg "law" "law" s_law ["script"]
theorem bits64 {i : Int} (h1 : -9223372036854775808 ≤ i) (h2 : i ≤ 9223372036854775808) : bits i ≤ 70 := (bits_le (k := 70)).2 (by rw [p70]; omega)
theorem p200 : (2 ^ 200 : Nat) = 1606938044258990275541962092341162602522202993782792835301376 := by decide
theorem p210 : (2 ^ 210 : Nat) = 1645504557321206042154969182557350504982735865633579863348609024 := by decide
theorem wrap_in {n : Int} (h1 : -9223372036854775808 ≤ n) (h2 : n ≤ 9223372036854775807) : wrapM n = n := by
  unfold wrapM
  omega
/-! ### quotients of ints -/
structure DivD (i j d r : Int) : Prop where
  e : i = j * d + r
  lt : absI r < absI j
  sg : r = 0 ∨ (r < 0 ↔ j < 0)
theorem fdiv_d {i j : Int} (h : j ≠ 0) : DivD i j (i.fdiv j) (i.fmod j) := by
  have e := Int.mul_fdiv_add_fmod i j
  rcases Int.lt_or_lt_of_ne h with c | c
  · have h1 := Int.fmod_nonneg_of_pos (-i) (b := -j) (by omega)
    have h2 := Int.fmod_lt_of_pos (-i) (b := -j) (by omega)
    rw [Int.neg_fmod_neg] at h1 h2
    refine ⟨e.symm, ?_, ?_⟩
    · unfold absI
      rw [if_pos c]
      split <;> omega
    · omega
  · have h1 := Int.fmod_nonneg_of_pos i (b := j) c
    have h2 := Int.fmod_lt_of_pos i (b := j) c
    refine ⟨e.symm, ?_, ?_⟩
    · unfold absI
      rw [if_neg (show ¬ j < 0 by omega), if_neg (by omega)]
      exact h2
    · omega
theorem div_in {i j d r : Int} (h : DivD i j d r) (i1 : -9223372036854775808 ≤ i) (i2 : i ≤ 9223372036854775807) (hj : j ≠ 0) (hx : ¬ (i = -9223372036854775808 ∧ j = -1)) : -9223372036854775808 ≤ d ∧ d ≤ 9223372036854775807 := by
  have e := h.e
  have lt := h.lt
  have sg := h.sg
  unfold absI at lt
  rcases Int.lt_or_lt_of_ne hj with c | c
  · rw [if_pos c] at lt
    have hr : r ≤ 0 := by split at lt <;> omega
    have hr2 : j < r := by split at lt <;> omega
    constructor
    · rcases Int.lt_or_le d (-9223372036854775808) with b | b
      · exfalso
        have : (-j) * (d + 1) ≤ 1 * (d + 1) := Int.mul_le_mul_of_nonpos_right (by omega) (by omega)
        have e2 : (-j) * (d + 1) = -(j * d) - j := by rw [Int.mul_add, Int.neg_mul]; omega
        omega
      · exact b
    · rcases Int.lt_or_le 9223372036854775807 d with b | b
      · exfalso
        have e2 : (-j) * d = -(j * d) := by rw [Int.neg_mul]
        rcases Int.lt_or_le j (-1) with c2 | c2
        · have : 2 * d ≤ (-j) * d := Int.mul_le_mul_of_nonneg_right (by omega) (by omega)
          omega
        · have : j = -1 := by omega
          subst this
          omega
      · exact b
  · rw [if_neg (by omega)] at lt
    have hr : 0 ≤ r := by split at lt <;> omega
    have hr2 : r < j := by split at lt <;> omega
    constructor
    · rcases Int.lt_or_le d (-9223372036854775808) with b | b
      · exfalso
        have : j * (d + 1) ≤ 1 * (d + 1) := Int.mul_le_mul_of_nonpos_right (by omega) (by omega)
        have e2 : j * (d + 1) = j * d + j := by rw [Int.mul_add]; omega
        omega
      · exact b
    · rcases Int.lt_or_le 9223372036854775807 d with b | b
      · exfalso
        have : 1 * d ≤ j * d := Int.mul_le_mul_of_nonneg_right (by omega) (by omega)
        omega
      · exact b
section
variable {P : Program} {w : World} {K : PySem.W.Frag} {mg : Str → Option Value} {base : Heap} {CF CE : Addr}
def spLWrap : Sp := fun vs H Q _ => ∃ n, vs = [.int n] ∧ bits n ≤ 200 ∧ Q (.int (wrapM n)) H
theorem sc_law_wrapped : FnScope ["number"] ["number"] (defScope s_law_wrapped) := ⟨rfl, rfl, rfl, by decide +kernel, rfl, by decide +kernel, by decide +kernel⟩
theorem ok_lwrapped (T : AllV K mg CF CE) : Kn P w K mg base CX0 1 "_law_wrapped" ["number"] spLWrap := by
  refine T.x_lwrapped.kn fun f fd F => ?_
  refine F.ok sc_law_wrapped (fun vs H Q E h => ?_) (fun cdv A outer s H vs Q E hr h => ?_)
  · obtain ⟨n, rfl, _⟩ := h
    rfl
  · obtain ⟨n, rfl, hb, q⟩ := h
    refine ⟨_, (C8.pss_cut (ps_while PassesOwn.never (pt_cmpR op_gt (pv 0) (pe_op op_sub (pe_op op_shlW pe_int pe_int) pe_int) (nomark _))
      (pss_one (ps_set (i := 0) sc_law_wrapped.nd rfl (Or.inl rfl) (pe_op op_sub (pv 0) (pe_op op_mulX (pe_op op_shlW pe_int pe_int) (pe_op op_add pe_int (pe_op op_fdivW (pe_op op_sub (pv 0) (pe_op op_shlW pe_int pe_int)) (pe_op op_shlW pe_int pe_int))))))))
      (C8.pss_cut (ps_while PassesOwn.never (pt_cmpR op_lt (pv 0) (pe_un un_neg (pe_op op_shlW pe_int pe_int)) (nomark _))
      (pss_one (ps_set (i := 0) sc_law_wrapped.nd rfl (Or.inl rfl) (pe_op op_add (pv 0) (pe_op op_mulX (pe_op op_shlW pe_int pe_int) (pe_op op_add pe_int (pe_op op_fdivW (pe_op op_sub (pe_op op_sub (pe_un un_neg (pe_op op_shlW pe_int pe_int)) (pv 0)) pe_int) (pe_op op_shlW pe_int pe_int))))))))
      (pss_one (ps_ret (pv 0))))), ?_⟩
    have e63 : (1 : Int) * 2 ^ (63 : Int).toNat = 9223372036854775808 := by decide
    have e64 : (1 : Int) * 2 ^ (64 : Int).toNat = 18446744073709551616 := by decide
    have b0 := (bits_le (k := 200)).1 hb
    rw [p200] at b0
    have bb : ∀ x : Int, -1606938044258990275541962092341162602522202993782792835301378 ≤ x → x ≤ 1606938044258990275541962092341162602522202993782792835301378 → bits x ≤ 100000 := fun x h1 h2 => by
      have := (bits_le (n := x) (k := 210)).2 (by rw [p210]; omega)
      omega
    refine w_cut (Mid := fun σ' H' => H' = H ∧ ∃ M, σ' = [some (.int M)] ∧ wrapM M = wrapM n ∧ M ≤ 9223372036854775807 ∧ -1606938044258990275541962092341162602522202993782792835301376 < M) ?_ ?_
    · refine w_while (fun m σ' H' => H' = H ∧ ∃ M, σ' = [some (.int M)] ∧ wrapM M = wrapM n ∧ (M ≤ 9223372036854775807 → m = 0) ∧ (¬ M ≤ 9223372036854775807 → m = 1) ∧ -1606938044258990275541962092341162602522202993782792835301376 < M ∧ M < 1606938044258990275541962092341162602522202993782792835301376) (m := if n ≤ 9223372036854775807 then 0 else 1) ⟨rfl, n, rfl, rfl, fun h => if_pos h, fun h => if_neg h, by omega, by omega⟩ ?_
      rintro m σ' H' ⟨rfl, M, rfl, wm, m0, m1, l, u⟩
      repeat walk_at "rd"
      refine w_I (cshl (i := 1) (j := 63) (by decide) (by decide) (by decide)) ?_
      rw [e63]
      repeat walk_at "rd"
      refine iD (fun c => ?_) (fun c => ?_)
      · refine w_turn ?_
        repeat walk_at "rd"
        refine w_I (cshl (i := 1) (j := 64) (by decide) (by decide) (by decide)) ?_
        rw [e64]
        repeat walk_at "rd"
        refine w_I (cshl (i := 1) (j := 63) (by decide) (by decide) (by decide)) ?_
        rw [e63]
        repeat walk_at "rd"
        refine w_I (cshl (i := 1) (j := 64) (by decide) (by decide) (by decide)) ?_
        rw [e64]
        refine w_I (cdivw (i := M - 9223372036854775808) (j := 18446744073709551616) (by decide) (by decide)) ?_
        repeat walk_at "rd"
        refine w_I (cmulx (i := 18446744073709551616) (j := 1 + (M - 9223372036854775808) / 18446744073709551616) (by decide) (bb _ (by omega) (by omega))) ?_
        repeat walk_at "rd"
        refine ⟨0, by have := m1 (by omega); omega, rfl, _, rfl, ?_, fun _ => rfl, fun h => ?_, by omega, by omega⟩
        · rw [← wm]
          unfold wrapM
          omega
        · omega
      · repeat walk_at "rd"
        exact ⟨rfl, M, rfl, wm, by omega, l⟩
    rintro σ' H' ⟨rfl, M0, rfl, wm0, u0, l0⟩
    refine w_cut (Mid := fun σ' H2 => H2 = H' ∧ ∃ M, σ' = [some (.int M)] ∧ wrapM M = wrapM n ∧ M ≤ 9223372036854775807 ∧ -9223372036854775808 ≤ M) ?_ ?_
    · refine w_while (fun m σ' H2 => H2 = H' ∧ ∃ M, σ' = [some (.int M)] ∧ wrapM M = wrapM n ∧ (-9223372036854775808 ≤ M → m = 0) ∧ (¬ -9223372036854775808 ≤ M → m = 1) ∧ -1606938044258990275541962092341162602522202993782792835301376 < M ∧ M ≤ 9223372036854775807) (m := if -9223372036854775808 ≤ M0 then 0 else 1) ⟨rfl, M0, rfl, wm0, fun h => if_pos h, fun h => if_neg h, by omega, by omega⟩ ?_
      rintro m σ' H2 ⟨rfl, M, rfl, wm, m0, m1, l, u⟩
      repeat walk_at "rd"
      refine w_I (cshl (i := 1) (j := 63) (by decide) (by decide) (by decide)) ?_
      rw [e63]
      repeat walk_at "rd"
      refine iD (fun c => ?_) (fun c => ?_)
      · refine w_turn ?_
        repeat walk_at "rd"
        refine w_I (cshl (i := 1) (j := 64) (by decide) (by decide) (by decide)) ?_
        rw [e64]
        repeat walk_at "rd"
        refine w_I (cshl (i := 1) (j := 63) (by decide) (by decide) (by decide)) ?_
        rw [e63]
        repeat walk_at "rd"
        refine w_I (cshl (i := 1) (j := 64) (by decide) (by decide) (by decide)) ?_
        rw [e64]
        refine w_I (cdivw (i := -9223372036854775808 - M - 1) (j := 18446744073709551616) (by decide) (by decide)) ?_
        repeat walk_at "rd"
        refine w_I (cmulx (i := 18446744073709551616) (j := 1 + (-9223372036854775808 - M - 1) / 18446744073709551616) (by decide) (bb _ (by omega) (by omega))) ?_
        repeat walk_at "rd"
        refine ⟨0, by have := m1 (by omega); omega, rfl, _, rfl, ?_, fun _ => rfl, fun h => ?_, by omega, by omega⟩
        · rw [← wm]
          unfold wrapM
          omega
        · omega
      · repeat walk_at "rd"
        exact ⟨rfl, M, rfl, wm, by omega, by omega⟩
    rintro σ' H2 ⟨rfl, M, rfl, wm, u, l⟩
    rw [← wm, wrap_in l u] at q
    repeat walk_at "rd"
    exact q
def spInt : Sp := fun vs H Q _ => ∃ (p : Addr) (n : Nat), vs = [.ref p] ∧ Well n H p ∧ n < 600000 ∧ ∀ i H', Oth p H H' → Well (n + 30) H' p → -9223372036854775808 ≤ i → i ≤ 9223372036854775807 → Q (.int i) H'
theorem u_int {p : Addr} {n : Nat} {H : Hp} {Q : VK} {E : XK} (hw : Well n H p) (hn : n < 600000) (q : ∀ i H', Oth p H H' → Well (n + 30) H' p → -9223372036854775808 ≤ i → i ≤ 9223372036854775807 → Q (.int i) H') : spInt ([V.ref p] ++ []) H Q E := ⟨p, n, rfl, hw, hn, q⟩
theorem sc_law_int : FnScope ["well", "some"] ["well"] (defScope s_law_int) := ⟨rfl, rfl, rfl, by decide +kernel, rfl, by decide +kernel, by decide +kernel⟩
theorem ok_int (T : AllV K mg CF CE) (k_law_draw : Kn P w K mg base CX0 1 "_law_draw" ["well", "many"] spDraw) (k_law_one : Kn P w K mg base CX0 2 "_law_one" ["well", "some"] spOne) (k_law_great : Kn P w K mg base CX0 2 "_law_great" ["well", "bits"] spGreat) :
    Kn P w K mg base CX0 3 "_law_int" ["well"] spInt := by
  refine T.x_int.kn fun f fd F => ?_
  refine F.ok sc_law_int (fun vs H Q E h => ?_) (fun cdv A outer s H vs Q E hr h => ?_)
  · obtain ⟨p, n, rfl, _⟩ := h
    rfl
  · obtain ⟨p, n, rfl, hw, hn, q⟩ := h
    refine ⟨_, (pss_cons (ps_set (i := 1) sc_law_int.nd rfl (Or.inl rfl) (pe_lst (pa_cons (pe_op op_sub (pk k_law_draw hr (pa_cons (pv 0) (pa_cons pe_int pa_nil))) pe_int) (pa_cons (pe_op op_sub (pk k_law_great hr (pa_cons (pv 0) (pa_cons pe_int pa_nil))) (pe_op op_shlW pe_int pe_int)) (pa_cons (pe_un un_neg (pe_op op_shlW pe_int pe_int)) (pa_cons (pe_op op_sub (pe_op op_sub (pe_op op_shlW pe_int pe_int) pe_int) (pk k_law_draw hr (pa_cons (pv 0) (pa_cons pe_int pa_nil)))) pa_nil))))))
      (pss_one (ps_ret (pk k_law_one hr (pa_cons (pv 0) (pa_cons (pe_op op_cat (pv 1) (pe_lst (pa_cons (pe_op op_sub (pk k_law_great hr (pa_cons (pv 0) (pa_cons pe_int pa_nil))) (pe_op op_shlW pe_int pe_int)) pa_nil))) pa_nil)))))), ?_⟩
    have e63 : (1 : Int) * 2 ^ (63 : Int).toNat = 9223372036854775808 := by decide
    have e32 : (1 : Int) * 2 ^ (32 : Int).toNat = 4294967296 := by decide
    repeat walk_at "rd"
    refine u_draw hw (by omega) (by decide) (by decide) fun t1 H1 o1 w1 t1l t1u => ?_
    repeat walk_at "rd"
    refine u_great w1 (by omega) (by decide) (by decide) fun t2 H2 o2 w2 t2l t2u => ?_
    have t2u : t2 < 18446744073709551616 := t2u
    repeat walk_at "rd"
    refine w_I (cshl (i := 1) (j := 63) (by decide) (by decide) (by decide)) ?_
    rw [e63]
    repeat walk_at "rd"
    refine w_I (cshl (i := 1) (j := 63) (by decide) (by decide) (by decide)) ?_
    rw [e63]
    repeat walk_at "rd"
    refine w_I (cshl (i := 1) (j := 63) (by decide) (by decide) (by decide)) ?_
    rw [e63]
    repeat walk_at "rd"
    refine u_draw w2 (by omega) (by decide) (by decide) fun t3 H3 o3 w3 t3l t3u => ?_
    repeat walk_at "rd"
    refine w_lst4 fun a4 H4 s4 n4 h4 => ?_
    repeat walk_at "rd"
    have ne4 := w3.ne n4
    have o4 := ((o1.trans o2).trans o3).same s4
    refine u_great (w3.same s4) (by omega) (by decide) (by decide) fun t5 H5 o5 w5 t5l t5u => ?_
    have t5u : t5 < 8589934592 := t5u
    repeat walk_at "rd"
    refine w_I (cshl (i := 1) (j := 32) (by decide) (by decide) (by decide)) ?_
    rw [e32]
    have k5 : H5 a4 = _ := o5 _ _ ne4 h4
    have o5 := o4.trans o5
    repeat walk_at "rd"
    refine w_lst1 fun a7 H7 s7 n7 h7 => ?_
    repeat walk_at "rd"
    refine w_cat (s7 _ _ k5) h7 (by show 4 + 1 ≤ sizeLine; decide) fun a8 H8 s8 n8 h8 => ?_
    repeat walk_at "rd"
    have w8 := (w5.same s7).same s8
    refine u_one w8 (by omega) h8 ((w5.same s7).ne n8) (by show 0 < 5; decide) (by show 5 ≤ 1000; decide) fun v H9 hv o9 w9 => ?_
    obtain ⟨i, rfl, l1, l2⟩ : ∃ i, v = .int i ∧ -9223372036854775808 ≤ i ∧ i ≤ 9223372036854775807 := by
      simp only [List.cons_append, List.nil_append, List.mem_cons, List.not_mem_nil, or_false] at hv
      rcases hv with rfl | rfl | rfl | rfl | rfl <;> exact ⟨_, rfl, by omega, by omega⟩
    exact q i H9 (((o5.same s7).same s8).trans o9) (w9.mono (by omega)) l1 l2
/-! ### ints -/
def spIntsR : Sp := fun vs H Q _ => ∃ i j, vs = [.int i, .int j] ∧ -9223372036854775808 ≤ i ∧ i ≤ 9223372036854775807 ∧ -9223372036854775808 ≤ j ∧ j ≤ 9223372036854775807 ∧ ∀ H', Same H H' → Q (.bl true) H'
theorem sc_law_ints_right : FnScope ["one", "other", "dues", "word", "due", "whole", "rest"] ["one", "other"] (defScope s_law_ints_right) := ⟨rfl, rfl, rfl, by decide +kernel, rfl, by decide +kernel, by decide +kernel⟩
theorem ok_ints_right (T : AllV K mg CF CE) (k_law_said : Kn P w K mg base CX0 5 "_law_said" ["word", "one", "other"] spSaid) (k_law_wrapped : Kn P w K mg base CX0 1 "_law_wrapped" ["number"] spLWrap) (k_arith : Kn P w K mg base CX0 9 "arith" ["word", "one", "other"] (spAri CF)) :
    Kn P w K mg base CX0 10 "_law_ints_right" ["one", "other"] spIntsR := by
  refine T.x_ints_right.kn fun f fd F => ?_
  refine F.ok sc_law_ints_right (fun vs H Q E h => ?_) (fun cdv A outer s H vs Q E hr h => ?_)
  · obtain ⟨i, j, rfl, _⟩ := h
    rfl
  · obtain ⟨i, j, rfl, i1, i2, j1, j2, q⟩ := h
    refine ⟨_, (pss_cons (ps_set (i := 2) sc_law_ints_right.nd rfl (Or.inl rfl) (pe_lst (pa_cons (pe_tup (pa_cons pe_str (pa_cons (pe_op op_add (pv 0) (pv 1)) pa_nil))) (pa_cons (pe_tup (pa_cons pe_str (pa_cons (pe_op op_sub (pv 0) (pv 1)) pa_nil))) (pa_cons (pe_tup (pa_cons pe_str (pa_cons (pe_op op_mulX (pv 0) (pv 1)) pa_nil))) pa_nil)))))
      (C8.pss_cut (ps_for PassesOwn.never rfl (pi_list (pv 2)) (pg_tup (by rfl) (pgs_cons (pg_name (i := 3) sc_law_ints_right.nd rfl (Or.inl rfl)) (pgs_cons (pg_name (i := 4) sc_law_ints_right.nd rfl (Or.inl rfl)) pgs_nil)))
      (pss_one (ps_if (pt_cmpR op_ne (pk k_law_said hr (pa_cons (pv 3) (pa_cons (pv 0) (pa_cons (pv 1) pa_nil)))) (pk k_law_wrapped hr (pa_cons (pv 4) pa_nil)) (nomark _)) (pss_one (ps_ret pe_bl)) pss_nil)))
      (pss_cons (ps_if (pt_cmpR op_eq (pv 1) pe_int (nomark _)) (pss_one (ps_ret (pe_cmpR (op_eqD hr.units) (pe_lst (pa_cons (pk k_law_said hr (pa_cons pe_str (pa_cons (pv 0) (pa_cons pe_int pa_nil)))) (pa_cons (pk k_law_said hr (pa_cons pe_str (pa_cons (pv 0) (pa_cons pe_int pa_nil)))) pa_nil))) (pe_lst (pa_cons (pe_lst (pa_cons pe_str pa_nil)) (pa_cons (pe_lst (pa_cons pe_str pa_nil)) pa_nil))) (nomark _)))) pss_nil)
      (pss_cons (ps_par (by rfl) sc_law_ints_right.nd (i := 5) (j := 6) rfl rfl (by decide) rfl rfl (pa_cons (pk k_arith hr (pa_cons pe_str (pa_cons (pv 0) (pa_cons (pv 1) pa_nil)))) (pa_cons (pk k_arith hr (pa_cons pe_str (pa_cons (pv 0) (pa_cons (pv 1) pa_nil)))) pa_nil)) (by rfl))
      (pss_cons (ps_if (PW.pt (pw_and (pt_cmpR op_eq (pv 5) (pe_un un_neg (pe_op op_shlW pe_int pe_int)) (nomark _)) (pw_and1 (pt_cmpR op_eq (pv 1) (pe_un un_neg pe_int) (nomark _))))) (pss_one (ps_ret (pe_and (pe_cmpR op_eq (pv 6) pe_int (nomark _)) (pe_one (pe_cmpR op_eq (pv 0) (pe_un un_neg (pe_op op_shlW pe_int pe_int)) (nomark _)))))) pss_nil)
      (pss_cons (ps_if (PW.pt (pw_or (pt_cmpR op_ne (pv 0) (pe_op op_add (pe_op op_mulX (pv 1) (pv 5)) (pv 6)) (nomark _)) (pw_or1 (pt_cmpR op_ge (pe_callB call_abs (by rfl) T.b_abs boot_abs (pa_cons (pv 6) pa_nil)) (pe_callB call_abs (by rfl) T.b_abs boot_abs (pa_cons (pv 1) pa_nil)) (nomark _))))) (pss_one (ps_ret pe_bl)) pss_nil)
      (pss_one (ps_ret (pe_or (pe_cmpR op_eq (pv 6) pe_int (nomark _)) (pe_one (pe_cmpR op_eq (pe_cmpR op_lt (pv 6) pe_int (nomark _)) (pe_cmpR op_lt (pv 1) pe_int (nomark _)) (nomark _)))))))))))), ?_⟩
    have e63 : (1 : Int) * 2 ^ (63 : Int).toNat = 9223372036854775808 := by decide
    have bi := bits64 i1 (by omega)
    have bj := bits64 j1 (by omega)
    repeat walk_at "rd"
    refine w_tup2 fun p1 H1 s1 n1 h1 => ?_
    repeat walk_at "rd"
    refine w_tup2 fun p2 H2 s2 n2 h2 => ?_
    repeat walk_at "rd"
    refine w_I (cmulx (i := i) (j := j) (by omega) (by omega)) ?_
    repeat walk_at "rd"
    refine w_tup2 fun p3 H3 s3 n3 h3 => ?_
    repeat walk_at "rd"
    refine w_lst3 fun L H4 s4 n4 hL => ?_
    have h1 := s4 _ _ (s3 _ _ (s2 _ _ h1))
    have h2 := s4 _ _ (s3 _ _ h2)
    have h3 := s4 _ _ h3
    have S4 := s1.trans (s2.trans (s3.trans s4))
    repeat walk_at "rd"
    refine w_cut (Mid := fun σ' H' => Same H H' ∧ ∃ v3 v4, σ' = [some (.int i), some (.int j), some (.ref L), v3, v4, none, none]) ?_ ?_
    · repeat walk_at "rd"
      refine w_iListI hL ?_
      refine for_list (xs := [.ref p1, .ref p2, .ref p3]) (fun _ σ' H' => ∃ v3 v4, σ' = [some (.int i), some (.int j), some (.ref L), v3, v4, none, none] ∧ Same H4 H') ⟨_, _, rfl, Same.refl _⟩ (fun i σ H' _ ⟨_, _, _, s⟩ => SqL.of (s _ _ hL)) ?_ ?_
      · rintro k x σ' H5 hx ⟨v3, v4, rfl, s5⟩
        obtain ⟨pp, wd, du, rfl, hpp, h3w, bdu⟩ : ∃ pp wd du, x = .ref pp ∧ H5 pp = some (.tup [.str wd, .int du]) ∧ Three wd i j (wrapM du) ∧ bits du ≤ 200 := by
          have := List.mem_of_getElem? hx
          simp only [List.mem_cons, List.not_mem_nil, or_false] at this
          rcases this with rfl | rfl | rfl
          · exact ⟨p1, _, _, rfl, s5 _ _ h1, .inl ⟨rfl, rfl⟩, by have := bits_add (k := 70) bi bj; omega⟩
          · exact ⟨p2, _, _, rfl, s5 _ _ h2, .inr (.inl ⟨rfl, rfl⟩), by have := bits64 (i := i) i1 (by omega); exact (bits_le (k := 200)).2 (by rw [p200]; omega)⟩
          · exact ⟨p3, _, _, rfl, s5 _ _ h3, .inr (.inr ⟨rfl, rfl⟩), by have := bits_mul i j; omega⟩
        refine w_gtup hpp rfl ?_
        repeat walk_at "rd"
        refine ⟨wd, i, j, rfl, bi, bj, .inl ⟨_, h3w, fun H6 s6 => ?_⟩⟩
        repeat walk_at "rd"
        refine ⟨du, rfl, bdu, ?_⟩
        repeat walk_at "rd"
        refine iN (fun c => absurd rfl c) (fun _ => ?_)
        repeat walk_at "rd"
        exact ⟨_, _, rfl, s5.trans s6⟩
      · rintro σ' H5 ⟨v3, v4, rfl, s5⟩
        exact ⟨S4.trans s5, _, _, rfl⟩
    rintro σ' H5 ⟨S5, v3, v4, rfl⟩
    repeat walk_at "rd"
    refine iD (fun cz => ?_) (fun cz => ?_)
    · repeat walk_at "rd"
      refine ⟨"floor", i, 0, rfl, bi, by decide, .inr ⟨.inl rfl, rfl, fun q1 H6 s6 e6 => ?_⟩⟩
      repeat walk_at "rd"
      refine ⟨"mod", i, 0, rfl, bi, by decide, .inr ⟨.inr rfl, rfl, fun q2 H7 s7 e7 => ?_⟩⟩
      have e6 := s7 _ _ e6
      repeat walk_at "rd"
      refine w_lst2 fun q3 H8 s8 n8 e8 => ?_
      repeat walk_at "rd"
      refine w_lst1 fun q4 H9 s9 n9 e9 => ?_
      repeat walk_at "rd"
      refine w_lst1 fun q5 H10 s10 n10 e10 => ?_
      repeat walk_at "rd"
      refine w_lst2 fun q6 H11 s11 n11 e11 => ?_
      have S8 := s8.trans (s9.trans (s10.trans s11))
      have e6 := S8 _ _ e6
      have e7 := S8 _ _ e7
      have e8 := s11 _ _ (s10 _ _ (s9 _ _ e8))
      have e9 := s11 _ _ (s10 _ _ e9)
      have e10 := s11 _ _ e10
      have o1 : errOf "floor" = "attempt to perform 'n//0'" := if_pos rfl
      have o2 : errOf "mod" = "attempt to perform 'n mod 0'" := if_neg (by decide +kernel)
      rw [o1] at e6
      rw [o2] at e7
      have ev : PyData.eqv (.list [.list [.str "attempt to perform 'n//0'"], .list [.str "attempt to perform 'n mod 0'"]]) (.list [.list [.str "attempt to perform 'n//0'"], .list [.str "attempt to perform 'n mod 0'"]]) = true := by decide +kernel
      have sh : SeqAt.shaped (.list [.list [.str "attempt to perform 'n//0'"], .list [.str "attempt to perform 'n mod 0'"]]) = true := by decide +kernel
      have d1 : ∀ {p : Addr} {x : Str}, H11 p = some (.lst [.str x]) → Dp K H11 (.ref p) (.list [.str x]) := fun e => .lst (SqL.of e) (.cons (.str _) .nil)
      refine w_eqD (.lst (SqL.of e8) (.cons (d1 e6) (.cons (d1 e7) .nil))) (.lst (SqL.of e11) (.cons (d1 e9) (.cons (d1 e10) .nil))) sh sh ?_
      rw [ev]
      exact q H11 (S5.trans (s6.trans (s7.trans S8)))
    have dd := fdiv_d (i := i) cz
    repeat walk_at "rd"
    refine u_arI bi bj cz (.inl rfl) fun H6 s6 => ?_
    rw [if_pos (rfl : ("floor" : Str) = "floor")]
    repeat walk_at "rd"
    refine u_arI bi bj cz (.inr rfl) fun H7 s7 => ?_
    rw [if_neg (show ¬ ("mod" : Str) = "floor" by decide +kernel)]
    generalize hd : i.fdiv j = d at dd ⊢
    generalize hrr : i.fmod j = r at dd ⊢
    have q := q H7 (S5.trans (s6.trans s7))
    have ee := dd.e
    have lt := dd.lt
    have sg := dd.sg
    unfold absI at lt
    repeat walk_at "rd"
    refine w_I (cshl (i := 1) (j := 63) (by decide) (by decide) (by decide)) ?_
    rw [e63]
    by_cases sp : i = -9223372036854775808 ∧ j = -1
    · obtain ⟨rfl, rfl⟩ := sp
      have hr0 : r = 0 := by omega
      subst hr0
      have hd0 : d = 9223372036854775808 := by omega
      subst hd0
      rw [show wrapM 9223372036854775808 = -9223372036854775808 by decide]
      repeat walk_at "rd"
      refine iD (fun _ => ?_) (fun c => absurd rfl c)
      repeat walk_at "rd"
      refine iD (fun _ => ?_) (fun c => absurd rfl c)
      repeat walk_at "rd"
      refine iD (fun _ => ?_) (fun c => absurd rfl c)
      repeat walk_at "rd"
      refine w_I (cshl (i := 1) (j := 63) (by decide) (by decide) (by decide)) ?_
      rw [e63]
      repeat walk_at "rd"
      rw [decide_eq_true rfl]
      exact q
    · have di := div_in dd i1 i2 cz sp
      rw [wrap_in di.1 di.2]
      have rest : ∀ (D : Ends), D.rt = Q → tSeq (tIfS (tOr (tTest (tOp rNe (tVar 0) (tOp (rI0 fun i j => V.int (i + j)) (tOp (rI CMulX fun i j => V.int (i * j)) (tVar 1) (tVar 5)) (tVar 6)))) (tTest (tOp (rI0 fun i j => V.bl (decide (j ≤ i))) (tCB (fun xs H Q => ∃ i, xs = [V.int i] ∧ Q (V.int (if i < 0 then -i else i)) H) (tCons (tVar 6) tNil)) (tCB (fun xs H Q => ∃ i, xs = [V.int i] ∧ Q (V.int (if i < 0 then -i else i)) H) (tCons (tVar 1) tNil))))) (tRet (tC (.bl false))) tNext) (tRet (tOrV (tOp rEq (tVar 6) (tC (.int 0))) (tOp rEq (tOp (rI0 fun i j => V.bl (decide (i < j))) (tVar 6) (tC (.int 0))) (tOp (rI0 fun i j => V.bl (decide (i < j))) (tVar 1) (tC (.int 0)))))) D [some (.int i), some (.int j), some (.ref L), v3, v4, some (.int d), some (.int r)] H7 := by
        intro D hD
        rw [← hD] at q
        obtain ⟨n9, rt9, bk9, ct9⟩ := D
        repeat walk_at "rd"
        refine w_I (cmulx (i := j) (j := d) (by omega) (by have := bits64 di.1 (by omega); omega)) ?_
        repeat walk_at "rd"
        refine iN (fun c => absurd ee c) (fun _ => ?_)
        repeat walk_at "rd"
        refine iD (fun c => absurd c (by omega)) (fun _ => ?_)
        repeat walk_at "rd"
        refine iA q (fun c hA => ?_)
        repeat walk_at "rd"
        refine w_eq rfl ?_
        have : decide (r < 0) = decide (j < 0) := by
          rcases sg with h | h
          · exact absurd h c
          · exact decide_eq_decide.2 h
        rw [this, decide_eq_true rfl]
        exact hA
      repeat walk_at "rd"
      refine iD (fun c => ?_) (fun c => ?_)
      · repeat walk_at "rd"
        refine iD (fun c2 => ?_) (fun c2 => ?_)
        · exfalso
          refine sp ⟨?_, c2⟩
          have c2 : j = -1 := c2
          subst c2
          have : d = -9223372036854775808 := c
          omega
        · exact rest _ rfl
      · refine iF ?_
        exact rest _ rfl
end
end Nu

set_option Elab.async false
set_option linter.all false
set_option maxRecDepth 100000
set_option autoImplicit false
set_option maxHeartbeats 4000000
namespace Nu
open PySem PySem.Spec PyProof.Rows L2 Rd
local macro_rules | `(tactic| walk_at "hp") => `(tactic| first | assumption | (refine same_get ?sm ?_; (case sm => assumption); walk_at "hp"))
local macro_rules | `(tactic| walk_at "rd") => `(tactic| first
  | with_reducible refine w_nx ?_
  | with_reducible refine w_rt ?_
  | with_reducible refine w_bk ?_
  | with_reducible refine w_ct ?_
  | with_reducible refine w_seq ?_
  | with_reducible refine w_next ?_
  | with_reducible refine w_ret ?_
  | with_reducible refine w_ifS ?_
  | with_reducible refine w_asg ?_
  | with_reducible refine w_name ?_
  | with_reducible refine w_par ?_
  | with_reducible refine w_parI ?_
  | with_reducible refine w_ii ?_
  | with_reducible refine w_i1 ?_
  | with_reducible refine w_drop ?_
  | with_reducible refine w_sFld ?_
  | ((with_reducible refine' w_var ?rdh ?_); (case rdh => exact rfl))
  | with_reducible refine w_c ?_
  | with_reducible refine w_op ?_
  | with_reducible refine w_un ?_
  | with_reducible refine w_I0 ?_
  | with_reducible refine w_U ?_
  | with_reducible refine w_bits ?_
  | with_reducible refine w_bitsI ?_
  | with_reducible refine w_tup ?_
  | with_reducible refine w_lst ?_
  | with_reducible refine w_nil ?_
  | with_reducible refine w_cons ?_
  | with_reducible refine w_fld ?_
  | with_reducible refine w_call ?_
  | with_reducible refine w_make ?_
  | with_reducible refine w_gsub ?_
  | with_reducible refine w_int1 ?_
  | with_reducible refine w_intB ?_
  | with_reducible refine w_for ?_
  | with_reducible refine w_rng1 ?_
  | with_reducible refine w_iList ?_
  | with_reducible refine w_iTup ?_
  | with_reducible refine w_makeD ?_
  | with_reducible refine w_nn ?_
  | with_reducible refine w_subB ?_
  | with_reducible refine w_meth ?_
  | with_reducible refine w_cb ?_
  | with_reducible refine w_test ?_
  | with_reducible refine w_B ?_
  | with_reducible refine w_bl ?_
  | with_reducible refine w_andV ?_
  | with_reducible refine w_orV ?_
  | with_reducible refine w_notV ?_
  | with_reducible refine w_and ?_
  | with_reducible refine w_or ?_
  | with_reducible refine w_not ?_
  | with_reducible refine w_if ?_
  | with_reducible refine w_gnil ?_
  | with_reducible refine w_gcons ?_
  | with_reducible refine iT ?_
  | with_reducible refine iF ?_
  | with_reducible refine w_eqI ?_
  | with_reducible refine w_neI ?_
  | with_reducible refine w_eqS ?_
  | with_reducible refine w_eqIS ?_
  | with_reducible refine w_eqSI ?_)

/-! ### what is left, plainly -/
theorem absI_ne {n : Int} (h : n ≠ 0) : 0 < absI n := by
  unfold absI
  split <;> omega
theorem rat_G {t p : Int} (h : -3000 ≤ p) : ratU t p * G 0 = t * (G p * ratB p) := by
  unfold ratU ratB
  split
  · rename_i c
    have e1 : G 0 = 2 ^ (0 - p).toNat * G p := by
      have := G_add (e := p) (0 - p).toNat h
      rwa [show p + ((0 - p).toNat : Int) = 0 by omega] at this
    rw [e1, Int.mul_comm (G p)]
  · rename_i c
    have e1 : G p = 2 ^ p.toNat * G 0 := by
      have := G_add (e := 0) p.toNat (by decide)
      rwa [show (0 : Int) + (p.toNat : Int) = p by omega] at this
    rw [e1, Int.mul_one, Int.mul_assoc]
theorem ok_p {s t p : Int} (h : (Fl.fin s t p).ok) : -1074 ≤ p ∧ p ≤ 1023 := by
  obtain ⟨_, _, p1, p2, _, _⟩ := ok_bounds h
  exact ⟨p1, p2⟩
theorem top_lt {s u q : Int} (h : (Fl.fin s u q).ok) : u * G q ≤ 9007199254740991 * G 971 := by
  obtain ⟨_, bu, q1, q2, u0, uq⟩ := ok_bounds h
  have ul : u < 9007199254740992 := h.2.2.1
  rcases Int.lt_or_le 971 q with c | c
  · obtain ⟨k, hk⟩ : ∃ k : Nat, q = 971 + k := ⟨(q - 971).toNat, by omega⟩
    rw [hk, G_add k (by decide), ← Int.mul_assoc]
    refine Int.mul_le_mul_of_nonneg_right ?_ (Int.le_of_lt (G_pos _))
    have hk2 : k ≤ 53 := by have := bits_nn u; omega
    have h1 : u < 2 ^ (53 - k) := (bits_lt_pow u0).1 (by omega)
    have h2 : (u + 1) * 2 ^ k ≤ 2 ^ (53 - k) * 2 ^ k := Int.mul_le_mul_of_nonneg_right (by omega) (Int.le_of_lt (pow_pos2 k))
    rw [← Int.pow_add, show 53 - k + k = 53 by omega, Int.add_mul, Int.one_mul, show (2 : Int) ^ 53 = 9007199254740992 by decide] at h2
    have := pow_pos2 k
    omega
  · have h1 : u * G q ≤ u * G 971 := Int.mul_le_mul_of_nonneg_left (G_le c) u0
    have h2 : u * G 971 ≤ 9007199254740991 * G 971 := Int.mul_le_mul_of_nonneg_right (by omega) (Int.le_of_lt (G_pos _))
    omega
theorem absT {s x : Int} (hs : s = 1 ∨ s = -1) (hx : 0 ≤ x) : absI (s * x) = x := by
  unfold absI
  rcases hs with rfl | rfl
  · rw [Int.one_mul, if_neg (by omega)]
  · split <;> omega
theorem leftM_fin {s t p r u q : Int} (hf : (Fl.fin s t p).ok) (hg : (Fl.fin r u q).ok) : leftM (.fin s t p) (.fin r u q) = nearM s ((ratU t p * ratB q) % (ratU u q * ratB p)) (ratB p * ratB q) := by
  show nearM s (absI (ratT s t p * ratB q) % absI (ratT r u q * ratB p)) (ratB p * ratB q) = _
  rw [ratT_U, ratT_U, Int.mul_assoc, Int.mul_assoc, absT hf.1 (Int.mul_nonneg (ratU_nn hf) (Int.le_of_lt (ratB_pos q))), absT hg.1 (Int.mul_nonneg (ratU_nn hg) (Int.le_of_lt (ratB_pos p)))]
theorem low_pos' {r u q : Int} (p : Int) (hg : (Fl.fin r u q).ok) (hu : u ≠ 0) : 0 < ratU u q * ratB p := by
  have h1 := ratU_nn hg
  have h2 := ratT_ne hg hu
  rw [ratT_U] at h2
  have : ratU u q ≠ 0 := fun z => h2 (by rw [z, Int.mul_zero])
  exact Int.mul_pos (by omega) (ratB_pos p)
theorem near_out {s t b m e : Int} (ht : 0 < t) (hb : 0 < b) (hh : bits t ≤ 2800) (hm : 0 < m) (hm2 : m < 9007199254740992) (he : -1074 ≤ e) (he2 : e ≤ 2900) (h : t * G 0 = m * (G e * b)) (hov : ¬ ((2 : Int) ^ 1024 - 2 ^ 970) * b ≤ t) :
    ∃ M Q, nearM s t b = .fin s M Q ∧ 0 < M ∧ -1074 ≤ Q ∧ M * (G Q * b) = t * G 0 := by
  have n := near_wh ht hb hh
  have x := near_exact n hb hm hm2 he he2 h
  have W0 : 0 < wh t b := by
    have h1 := Int.mul_pos hm (G_pos e)
    rw [← x] at h1
    rcases Int.lt_or_eq_of_le n.w0 with c | c
    · exact c
    · rw [← c, Int.zero_mul] at h1; omega
  have p0 := n.p0
  have rg := red_G W0 (p := p2 t b) (by omega)
  obtain ⟨k, m2, h1, h2, h3⟩ := red_spec W0 (p2 t b)
  refine ⟨(red (wh t b) (p2 t b)).1, (red (wh t b) (p2 t b)).2, ?_, ?_, ?_, ?_⟩
  · unfold nearM
    rw [if_neg (by omega), if_neg (fun c => hov ((edge n hb).1 c))]
  · rw [h3]; show 0 < 2 * m2 + 1; omega
  · rw [h3]; show -1074 ≤ p2 t b + k; omega
  · rw [← Int.mul_assoc, rg, x, h, Int.mul_assoc]
theorem left_exact {s t p r u q : Int} (hf : (Fl.fin s t p).ok) (hg : (Fl.fin r u q).ok) (hu : u ≠ 0) (hz : (ratU t p * ratB q) % (ratU u q * ratB p) ≠ 0) :
    ∃ M Q, nearM s ((ratU t p * ratB q) % (ratU u q * ratB p)) (ratB p * ratB q) = .fin s M Q ∧ 0 < M ∧ -1074 ≤ Q ∧ M * (G Q * (ratB p * ratB q)) = (ratU t p * ratB q) % (ratU u q * ratB p) * G 0 := by
  have lp := low_pos' p hg hu
  have gp : 0 < (ratU t p * ratB q) % (ratU u q * ratB p) := by
    have := Int.emod_nonneg (ratU t p * ratB q) (b := ratU u q * ratB p) (by omega)
    omega
  have gl : (ratU t p * ratB q) % (ratU u q * ratB p) < ratU u q * ratB p := Int.emod_lt_of_pos _ lp
  have B0 := Int.mul_pos (ratB_pos p) (ratB_pos q)
  obtain ⟨fp, fp2⟩ := ok_p hf
  obtain ⟨gq, gq2⟩ := ok_p hg
  have tl : t < 9007199254740992 := hf.2.2.1
  have t0 := hf.2.1
  have ul : u < 9007199254740992 := hg.2.2.1
  have u0 : 0 < u := by have := hg.2.1; omega
  have r1 := rat_G (t := t) (p := p) (by omega)
  have r2 := rat_G (t := u) (p := q) (by omega)
  have hA0 : ratU t p * ratB q * G 0 = t * (G p * (ratB p * ratB q)) := by
    rw [Int.mul_right_comm, r1]
    simp only [Int.mul_assoc]
  have hC0 : ratU u q * ratB p * G 0 = u * (G q * (ratB p * ratB q)) := by
    rw [Int.mul_right_comm, r2]
    simp only [Int.mul_assoc, Int.mul_comm, Int.mul_left_comm]
  have hb : bits ((ratU t p * ratB q) % (ratU u q * ratB p)) ≤ 2800 := by
    have h1 := emod_le' (a := ratU t p * ratB q) (Int.mul_nonneg (ratU_nn hf) (Int.le_of_lt (ratB_pos q))) lp
    have h2 := bits_mono (Int.le_of_lt gp) h1
    have h3 := bits_mul (ratU t p) (ratB q)
    have h4 := ratU_bits hf
    have h5 := ratB_b hg
    omega
  have hov : ¬ ((2 : Int) ^ 1024 - 2 ^ 970) * (ratB p * ratB q) ≤ (ratU t p * ratB q) % (ratU u q * ratB p) := by
    intro h
    have e1 : ((2 : Int) ^ 1024 - 2 ^ 970) * G 0 = 18014398509481983 * G 970 := by decide +kernel
    have h1 := Int.mul_le_mul_of_nonneg_right h (Int.le_of_lt (G_pos 0))
    have h2 := Int.mul_lt_mul_of_pos_right gl (G_pos 0)
    rw [Int.mul_right_comm, e1, Int.mul_assoc] at h1
    rw [hC0, ← Int.mul_assoc] at h2
    have h3 := Int.mul_le_mul_of_nonneg_right (top_lt hg) (Int.le_of_lt B0)
    have h5 : (9007199254740991 : Int) * G 971 = 18014398509481982 * G 970 := by
      have := G_pred (e := 971) (by decide)
      rw [show (971 : Int) - 1 = 970 from rfl] at this
      omega
    rw [h5, Int.mul_assoc 18014398509481982] at h3
    have h4 := Int.mul_pos (G_pos 970) B0
    omega
  rcases Int.le_total p q with c | c
  · obtain ⟨k, hk⟩ : ∃ k : Nat, q = p + k := ⟨(q - p).toNat, by omega⟩
    have gk : G q = 2 ^ k * G p := by rw [hk]; exact G_add k (by omega)
    have cpos : 0 < u * 2 ^ k := Int.mul_pos u0 (pow_pos2 k)
    have me := mod_exact (K := G p * (ratB p * ratB q)) (a := t) (c := u * 2 ^ k) (Int.mul_pos (G_pos _) B0) cpos hA0 (by rw [hC0, gk]; simp only [Int.mul_assoc])
    have m0 : 0 < t % (u * 2 ^ k) := by
      have h1 := Int.emod_nonneg t (b := u * 2 ^ k) (by omega)
      rcases Int.lt_or_eq_of_le h1 with h | h
      · exact h
      · rw [← h, Int.zero_mul] at me
        have := Int.mul_pos gp (G_pos 0)
        omega
    have m1 := emod_le' (a := t) t0 cpos
    exact near_out gp B0 hb m0 (by omega) fp (by omega) me hov
  · obtain ⟨k, hk⟩ : ∃ k : Nat, p = q + k := ⟨(p - q).toNat, by omega⟩
    have gk : G p = 2 ^ k * G q := by rw [hk]; exact G_add k (by omega)
    have me := mod_exact (K := G q * (ratB p * ratB q)) (a := t * 2 ^ k) (c := u) (Int.mul_pos (G_pos _) B0) u0 (by rw [hA0, gk]; simp only [Int.mul_assoc]) hC0
    have m0 : 0 < (t * 2 ^ k) % u := by
      have h1 := Int.emod_nonneg (t * 2 ^ k) (b := u) (by omega)
      rcases Int.lt_or_eq_of_le h1 with h | h
      · exact h
      · rw [← h, Int.zero_mul] at me
        have := Int.mul_pos gp (G_pos 0)
        omega
    have m1 : (t * 2 ^ k) % u < u := Int.emod_lt_of_pos _ u0
    exact near_out gp B0 hb m0 (by omega) gq (by omega) me hov
/-- the sum of what is left and the other one -/
theorem mod_sum {s t p r u q : Int} (hf : (Fl.fin s t p).ok) (hg : (Fl.fin r u q).ok) (hu : u ≠ 0) (hz : (ratU t p * ratB q) % (ratU u q * ratB p) ≠ 0) (hs : s ≠ r) :
    ∃ t' b', remM (.fin s t p) (.fin r u q) = nearM r t' b' ∧ 0 < t' ∧ 0 < b' ∧ bits t' ≤ 2200 ∧ (ratU u q * ratB p - (ratU t p * ratB q) % (ratU u q * ratB p)) * b' = t' * (ratB p * ratB q) := by
  obtain ⟨M, Q, e1, M0, Q0, e2⟩ := left_exact hf hg hu hz
  have lp := low_pos' p hg hu
  have gl : (ratU t p * ratB q) % (ratU u q * ratB p) < ratU u q * ratB p := Int.emod_lt_of_pos _ lp
  have B0 := Int.mul_pos (ratB_pos p) (ratB_pos q)
  have okl : (Fl.fin s M Q).ok := by
    have := leftM_ok hf hg (decide_eq_false hu : isZero (.fin r u q) = false)
    rwa [leftM_fin hf hg, e1] at this
  generalize hgap : (ratU t p * ratB q) % (ratU u q * ratB p) = gap at *
  obtain ⟨gq, gq2⟩ := ok_p hg
  have r1 := rat_G (t := M) (p := Q) (by omega)
  have r2 := rat_G (t := u) (p := q) (by omega)
  have cross : (ratU u q * ratB p - gap) * (ratB Q * ratB q) = (ratU u q * ratB Q - ratU M Q * ratB q) * (ratB p * ratB q) := by
    have g0 := G_pos 0
    refine Int.eq_of_mul_eq_mul_right (show G 0 ≠ 0 by omega) ?_
    have a1 : ratU u q * ratB p * (ratB Q * ratB q) * G 0 = ratU u q * ratB Q * (ratB p * ratB q) * G 0 := by simp only [Int.mul_assoc, Int.mul_comm, Int.mul_left_comm]
    have a2 : gap * (ratB Q * ratB q) * G 0 = ratU M Q * ratB q * (ratB p * ratB q) * G 0 := by
      rw [show gap * (ratB Q * ratB q) * G 0 = gap * G 0 * (ratB Q * ratB q) by simp only [Int.mul_assoc, Int.mul_comm, Int.mul_left_comm], ← e2,
        show ratU M Q * ratB q * (ratB p * ratB q) * G 0 = ratU M Q * G 0 * (ratB q * (ratB p * ratB q)) by simp only [Int.mul_assoc, Int.mul_comm, Int.mul_left_comm], r1]
      simp only [Int.mul_assoc, Int.mul_comm, Int.mul_left_comm]
    rw [Int.sub_mul, Int.sub_mul, Int.sub_mul, Int.sub_mul, a1, a2]
  have bq := Int.mul_pos (ratB_pos Q) (ratB_pos q)
  have tpos : 0 < ratU u q * ratB Q - ratU M Q * ratB q := by
    have h1 := Int.mul_pos (show 0 < ratU u q * ratB p - gap by omega) bq
    rw [cross] at h1
    rcases Int.lt_or_le 0 (ratU u q * ratB Q - ratU M Q * ratB q) with c | c
    · exact c
    · have := Int.mul_le_mul_of_nonneg_right c (Int.le_of_lt B0)
      rw [Int.zero_mul] at this
      omega
  refine ⟨_, _, ?_, tpos, bq, ?_, cross⟩
  · unfold remM
    rw [if_neg (show ¬ isInf (.fin s t p) = true from Bool.false_ne_true), if_neg (show ¬ isZero (.fin r u q) = true by unfold isZero; simpa using hu), leftM_fin hf hg, hgap, e1,
      if_neg (show ¬ isZero (.fin s M Q) = true by unfold isZero; simpa using (show M ≠ 0 by omega)), if_neg (show ¬ (Fl.fin s M Q).s = (Fl.fin r u q).s from hs), addM_ff, if_neg (fun h => hu h.2)]
    have hT : ratT s M Q * ratB q + ratT r u q * ratB Q = r * (ratU u q * ratB Q - ratU M Q * ratB q) := by
      have hsr : s = -r := by
        rcases okl.1 with h | h <;> rcases hg.1 with h2 | h2 <;> omega
      rw [ratT_U, ratT_U, hsr, Int.mul_sub, Int.neg_mul, Int.neg_mul, Int.mul_assoc, Int.mul_assoc]
      omega
    rw [hT]
    have hab : (if r * (ratU u q * ratB Q - ratU M Q * ratB q) < 0 then -(r * (ratU u q * ratB Q - ratU M Q * ratB q)) else r * (ratU u q * ratB Q - ratU M Q * ratB q)) = ratU u q * ratB Q - ratU M Q * ratB q := absT hg.1 (Int.le_of_lt tpos)
    rw [hab]
    generalize ratU u q * ratB Q - ratU M Q * ratB q = x at tpos ⊢
    congr 1
    rcases hg.1 with h | h <;> rw [h]
    · rw [if_neg (by omega)]
    · rw [if_pos (by omega)]
  · have h1 : ratU u q * ratB Q - ratU M Q * ratB q ≤ ratU u q * ratB Q := by
      have := Int.mul_nonneg (ratU_nn okl) (Int.le_of_lt (ratB_pos q))
      omega
    have h2 := bits_mono (Int.le_of_lt tpos) h1
    have h3 := bits_mul (ratU u q) (ratB Q)
    have h4 := ratU_bits hg
    have h5 := ratB_b okl
    omega
theorem nearM_s (s t b : Int) : (nearM s t b).s = s := by
  unfold nearM
  split
  · rfl
  · split <;> rfl
theorem mod_same {s t p r u q : Int} (hf : (Fl.fin s t p).ok) (hg : (Fl.fin r u q).ok) (hu : u ≠ 0) (hs : s = r ∨ (ratU t p * ratB q) % (ratU u q * ratB p) = 0) :
    remM (.fin s t p) (.fin r u q) = nearM s ((ratU t p * ratB q) % (ratU u q * ratB p)) (ratB p * ratB q) := by
  unfold remM
  rw [if_neg (show ¬ isInf (.fin s t p) = true from Bool.false_ne_true), if_neg (show ¬ isZero (.fin r u q) = true by unfold isZero; simpa using hu), leftM_fin hf hg]
  split
  · rfl
  · rename_i c
    rcases hs with h | h
    · rw [if_pos (by rw [nearM_s]; exact h)]
    · exfalso
      rw [h] at c
      refine c ?_
      rw [show nearM s 0 (ratB p * ratB q) = .fin s 0 0 from if_pos rfl]
      rfl
/-! ### floor, plainly -/
theorem ari_floor (f g : Fl) : ariM "floor" f g = floorM (ariM "div" f g) := by
  unfold ariM
  split
  · rfl
  · rw [if_neg (show ¬ ("floor" : Str) = "add" by decide +kernel), if_neg (show ¬ ("floor" : Str) = "sub" by decide +kernel), if_neg (show ¬ ("floor" : Str) = "mul" by decide +kernel), if_neg (show ¬ ("floor" : Str) = "mod" by decide +kernel), if_pos (rfl : ("floor" : Str) = "floor"),
      if_neg (show ¬ ("div" : Str) = "add" by decide +kernel), if_neg (show ¬ ("div" : Str) = "sub" by decide +kernel), if_neg (show ¬ ("div" : Str) = "mul" by decide +kernel), if_neg (show ¬ ("div" : Str) = "mod" by decide +kernel), if_neg (show ¬ ("div" : Str) = "floor" by decide +kernel)]
theorem ari_mod (f g : Fl) : ariM "mod" f g = if (isNan f || isNan g) = true then .nan else remM f g := by
  unfold ariM
  rw [if_neg (show ¬ ("mod" : Str) = "add" by decide +kernel), if_neg (show ¬ ("mod" : Str) = "sub" by decide +kernel), if_neg (show ¬ ("mod" : Str) = "mul" by decide +kernel), if_pos (rfl : ("mod" : Str) = "mod")]
/-- a whole number below 2 ** 53 is told exactly -/
theorem near_int {s n : Int} (h0 : 0 < n) (h1 : n < 9007199254740992) : ∃ M Q, nearM s n 1 = .fin s M Q ∧ 0 < M ∧ -1074 ≤ Q ∧ ratU M Q = n * ratB Q := by
  have hb : bits n ≤ 2800 := by
    have := (bits_lt_pow (n := n) (k := 53) (by omega)).2 h1
    omega
  have hov : ¬ ((2 : Int) ^ 1024 - 2 ^ 970) * 1 ≤ n := by
    have : (9007199254740992 : Int) < 2 ^ 1024 - 2 ^ 970 := by decide +kernel
    intro h
    omega
  obtain ⟨M, Q, e1, M0, Q0, e2⟩ := near_out (s := s) (t := n) (b := 1) (m := n) (e := 0) h0 (by decide) hb h0 h1 (by decide) (by decide) (by rw [Int.mul_one]) hov
  refine ⟨M, Q, e1, M0, Q0, ?_⟩
  have r1 := rat_G (t := M) (p := Q) (by omega)
  rw [Int.mul_one] at e2
  have g0 := G_pos 0
  refine Int.eq_of_mul_eq_mul_right (show G 0 ≠ 0 by omega) ?_
  rw [r1, ← Int.mul_assoc, e2]
  simp only [Int.mul_assoc, Int.mul_comm, Int.mul_left_comm]
theorem floor_due {s t p : Int} (h : (Fl.fin s t p).ok) (ht : t ≠ 0) (hd : ratU t p * s / ratB p ≠ 0) : ∃ r u q, floorM (.fin s t p) = .fin r u q ∧ r * ratU u q = ratU t p * s / ratB p * ratB q := by
  have sm := h.1
  rw [floorM_fin]
  by_cases c : 0 ≤ p
  · rw [if_pos c]
    have eB : ratB p = 1 := if_neg (by omega)
    refine ⟨s, t, p, rfl, ?_⟩
    rw [eB, Int.ediv_one, Int.mul_one, Int.mul_comm]
  · rw [if_neg c]
    have eU : ratU t p = t := if_pos (by omega)
    have eT : ratT s t p = t * s := by rw [ratT_U, eU, Int.mul_comm]
    rw [eU] at hd ⊢
    rw [eT]
    have bd : (t * s / ratB p).natAbs < 9007199254740992 := by
      have h1 := Int.natAbs_ediv_le_natAbs (t * s) (ratB p)
      have h2 : (t * s).natAbs = t.natAbs := by rcases sm with rfl | rfl <;> simp
      have h3 : t < 9007199254740992 := h.2.2.1
      have h4 := h.2.1
      omega
    generalize t * s / ratB p = d at hd bd ⊢
    have ab : absI d < 9007199254740992 := by unfold absI; split <;> omega
    obtain ⟨M, Q, e1, _, _, e2⟩ := near_int (s := if d < 0 then -1 else 1) (absI_ne hd) ab
    refine ⟨_, M, Q, e1, ?_⟩
    rw [e2, ← Int.mul_assoc]
    congr 1
    unfold absI
    split <;> omega
section
variable {P : Program} {w : World} {K : PySem.W.Frag} {mg : Str → Option Value} {base : Heap} {CF CE : Addr}
end
end Nu

set_option Elab.async false
set_option linter.all false
set_option maxRecDepth 100000
set_option autoImplicit false
set_option maxHeartbeats 4000000
namespace Nu
open PySem PySem.Spec PyProof.Rows L2 Rd
local macro_rules | `(tactic| walk_at "hp") => `(tactic| first | assumption | (refine same_get ?sm ?_; (case sm => assumption); walk_at "hp"))
local macro_rules | `(tactic| walk_at "rd") => `(tactic| first
  | with_reducible refine w_nx ?_
  | with_reducible refine w_rt ?_
  | with_reducible refine w_bk ?_
  | with_reducible refine w_ct ?_
  | with_reducible refine w_seq ?_
  | with_reducible refine w_next ?_
  | with_reducible refine w_ret ?_
  | with_reducible refine w_ifS ?_
  | with_reducible refine w_asg ?_
  | with_reducible refine w_name ?_
  | with_reducible refine w_par ?_
  | with_reducible refine w_parI ?_
  | with_reducible refine w_ii ?_
  | with_reducible refine w_i1 ?_
  | with_reducible refine w_drop ?_
  | with_reducible refine w_sFld ?_
  | ((with_reducible refine' w_var ?rdh ?_); (case rdh => exact rfl))
  | with_reducible refine w_c ?_
  | with_reducible refine w_op ?_
  | with_reducible refine w_un ?_
  | with_reducible refine w_I0 ?_
  | with_reducible refine w_U ?_
  | with_reducible refine w_bits ?_
  | with_reducible refine w_bitsI ?_
  | with_reducible refine w_tup ?_
  | with_reducible refine w_lst ?_
  | with_reducible refine w_nil ?_
  | with_reducible refine w_cons ?_
  | with_reducible refine w_fld ?_
  | with_reducible refine w_call ?_
  | with_reducible refine w_make ?_
  | with_reducible refine w_gsub ?_
  | with_reducible refine w_int1 ?_
  | with_reducible refine w_intB ?_
  | with_reducible refine w_for ?_
  | with_reducible refine w_rng1 ?_
  | with_reducible refine w_iList ?_
  | with_reducible refine w_iTup ?_
  | with_reducible refine w_makeD ?_
  | with_reducible refine w_nn ?_
  | with_reducible refine w_subB ?_
  | with_reducible refine w_meth ?_
  | with_reducible refine w_cb ?_
  | with_reducible refine w_test ?_
  | with_reducible refine w_B ?_
  | with_reducible refine w_bl ?_
  | with_reducible refine w_andV ?_
  | with_reducible refine w_orV ?_
  | with_reducible refine w_notV ?_
  | with_reducible refine w_and ?_
  | with_reducible refine w_or ?_
  | with_reducible refine w_not ?_
  | with_reducible refine w_if ?_
  | with_reducible refine w_gnil ?_
  | with_reducible refine w_gcons ?_
  | with_reducible refine iT ?_
  | with_reducible refine iF ?_
  | with_reducible refine w_eqI ?_
  | with_reducible refine w_neI ?_
  | with_reducible refine w_eqS ?_
  | with_reducible refine w_eqIS ?_
  | with_reducible refine w_eqSI ?_)

theorem floor_zero {s t p : Int} (h : (Fl.fin s t p).ok) (ht : t ≠ 0) (hd : ratU t p * s / ratB p = 0) : floorM (.fin s t p) = .fin 1 0 0 := by
  have sm := h.1
  rw [floorM_fin]
  by_cases c : 0 ≤ p
  · exfalso
    have eB : ratB p = 1 := if_neg (by omega)
    rw [eB, Int.ediv_one] at hd
    have := ratT_ne h ht
    rw [ratT_U, Int.mul_comm] at this
    exact this hd
  · rw [if_neg c]
    have eT : ratT s t p = ratU t p * s := by rw [ratT_U, Int.mul_comm]
    rw [eT, hd]
    rfl
theorem mod_nan {f g : Fl} (h : (isNan f || isNan g) = true ∨ isInf f = true ∨ isZero g = true) : ariM "mod" f g = .nan := by
  rw [ari_mod]
  split
  · rfl
  · rename_i c
    rcases h with h | h | h
    · exact absurd h c
    · unfold remM
      rw [if_pos h]
    · unfold remM
      split
      · rfl
      · first | rfl | rw [if_pos h]
theorem u_eqF2 {CF : Addr} {a b : Addr} {f h : Fl} {g : Bool → Bool} {H : Hp} {Q : VK} (ha : FlAt CF H a f) (hb : FlAt CF H b h) (e : f = h) (q : ∀ H', Same H H' → Q (.bl (g true)) H') : rOwn CF g (spFEq CF) (.ref a) (.ref b) H Q := by
  subst e
  exact u_eqF ha hb q
theorem Fl.tyS (f : Fl) (K : PySem.W.Frag) (H : Hp) : ∃ t, TyX K H f.t t ∧ PySem.W.kitOne K t (.type "str") = some (isNan f || isInf f) := by
  cases f with
  | fin s t p => exact ⟨_, .base (.int t), kit_ty (r := false) (by decide +kernel)⟩
  | inf s => exact ⟨_, .base (.str _), kit_ty (r := true) (by decide +kernel)⟩
  | nan => exact ⟨_, .base (.str _), kit_ty (r := true) (by decide +kernel)⟩
section
variable {P : Program} {w : World} {K : PySem.W.Frag} {mg : Str → Option Value} {base : Heap} {CF CE : Addr}
def spPair (CF : Addr) : Sp := fun vs H Q _ => ∃ a b f g, vs = [.ref a, .ref b] ∧ FlAt CF H a f ∧ FlAt CF H b g ∧ f.ok ∧ g.ok ∧ ∀ H', Same H H' → Q (.bl true) H'
theorem u_pair {a b : Addr} {f g : Fl} {H : Hp} {Q : VK} {E : XK} (hf : FlAt CF H a f) (hg : FlAt CF H b g) (okf : f.ok) (okg : g.ok) (q : ∀ H', Same H H' → Q (.bl true) H') : spPair CF ([V.ref a, V.ref b] ++ []) H Q E := ⟨a, b, f, g, rfl, hf, hg, okf, okg, q⟩
theorem f_div : Four "div" := .inr (.inr (.inr (.inl rfl)))
theorem f_mod : Four "mod" := .inr (.inr (.inr (.inr (.inl rfl))))
theorem f_floor : Four "floor" := .inr (.inr (.inr (.inr (.inr rfl))))
theorem sc_law_floor_right : FnScope ["one", "other", "found", "whole", "top", "bottom", "due", "many"] ["one", "other"] (defScope s_law_floor_right) := ⟨rfl, rfl, rfl, by decide +kernel, rfl, by decide +kernel, by decide +kernel⟩
theorem ok_floor_right (T : AllV K mg CF CE) (k_arith : Kn P w K mg base CX0 9 "arith" ["word", "one", "other"] (spAri CF)) (k_law_ratio : Kn P w K mg base CX0 1 "_law_ratio" ["number"] (spLRatio CF)) (k_Float_eq : KnM P w K mg base CX0 1 CF "__eq__" ["self", "other"] (spFEq CF))
    (k_Float_init : KnC P w K mg base CX0 2 "Float" CF ["self", "sign", "top", "power"] (spInit CF)) : Kn P w K mg base CX0 10 "_law_floor_right" ["one", "other"] (spPair CF) := by
  refine T.x_floor_right.kn fun f fd F => ?_
  refine F.ok sc_law_floor_right (fun vs H Q E h => ?_) (fun cdv A outer s H vs Q E hr h => ?_)
  · obtain ⟨a, b, f, g, rfl, _⟩ := h
    rfl
  · obtain ⟨a, b, f, g, rfl, hf, hg, okf, okg, q⟩ := h
    refine ⟨_, (pss_cons (ps_par (by rfl) sc_law_floor_right.nd (i := 2) (j := 3) rfl rfl (by decide) rfl rfl (pa_cons (pk k_arith hr (pa_cons pe_str (pa_cons (pv 0) (pa_cons (pv 1) pa_nil)))) (pa_cons (pk k_arith hr (pa_cons pe_str (pa_cons (pv 0) (pa_cons (pv 1) pa_nil)))) pa_nil)) (by rfl))
      (pss_cons (ps_if (PW.pt (pw_or (pt_val (pe_callB call_isi (by rfl) T.b_isinstance boot_isinstance (pa_cons (pe_fld (pv 2) rfl) (pa_cons (pe_bltn (by rfl) T.b_str boot_str (rty _)) pa_nil)))) (pw_or1 (pt_cmpR op_eq (pe_fld (pv 2) rfl) pe_int (nomark _))))) (pss_one (ps_ret (pe_cmpR (op_eqOwn k_Float_eq hr) (pv 3) (pv 2) (nomark _)))) pss_nil)
      (pss_cons (ps_asg (pk k_law_ratio hr (pa_cons (pv 2) pa_nil)) (pg_tup (by rfl) (pgs_cons (pg_name (i := 4) sc_law_floor_right.nd rfl (Or.inl rfl)) (pgs_cons (pg_name (i := 5) sc_law_floor_right.nd rfl (Or.inl rfl)) pgs_nil))))
      (pss_cons (ps_set (i := 4) sc_law_floor_right.nd rfl (Or.inl rfl) (pe_op op_mulX (pv 4) (pe_fld (pv 2) rfl)))
      (pss_cons (ps_set (i := 6) sc_law_floor_right.nd rfl (Or.inl rfl) (pe_op op_fdivW (pv 4) (pv 5)))
      (pss_cons (ps_if (pt_cmpR op_eq (pv 6) pe_int (nomark _)) (pss_one (ps_ret (pe_cmpR (op_eqOwn k_Float_eq hr) (pv 3) (pkC k_Float_init hr (pa_cons pe_int (pa_cons pe_int (pa_cons pe_int pa_nil)))) (nomark _)))) pss_nil)
      (pss_cons (ps_set (i := 7) sc_law_floor_right.nd rfl (Or.inl rfl) (pk k_law_ratio hr (pa_cons (pv 3) pa_nil)))
      (pss_one (ps_ret (pe_cmpR op_eq (pe_op op_mulX (pe_fld (pv 3) rfl) (pe_ix ix_tup (pv 7) pe_int (fun _ _ => rfl))) (pe_op op_mulX (pv 6) (pe_ix ix_tup (pv 7) pe_int (fun _ _ => rfl))) (nomark _))))))))))), ?_⟩
    repeat walk_at "rd"
    refine u_ari f_div (.inl rfl) (show NmAt CF H (.ref a) (.fl f) from ⟨a, rfl, hf, okf⟩) (show NmAt CF H (.ref b) (.fl g) from ⟨b, rfl, hg, okg⟩) fun x1 H1 s1 k1 => ?_
    repeat walk_at "rd"
    refine u_ari f_floor (.inr (.inl rfl)) (show NmAt CF H1 (.ref a) (.fl f) from ⟨a, rfl, hf.same s1, okf⟩) (show NmAt CF H1 (.ref b) (.fl g) from ⟨b, rfl, hg.same s1, okg⟩) fun x2 H2 s2 k2 => ?_
    rw [ari_floor] at k2
    have okx : (ariM "div" (toF (.fl f)) (toF (.fl g))).ok := ariM_ok okf okg
    have k1 := k1.same s2
    generalize ariM "div" (toF (.fl f)) (toF (.fl g)) = x at k1 k2 okx
    have q : ∀ H', Same H2 H' → Q (.bl true) H' := fun H' s => q H' (s1.trans (s2.trans s))
    obtain ⟨dx, e1⟩ := id k1
    obtain ⟨dy, e2⟩ := id k2
    obtain ⟨tf, tyf, kf⟩ := Fl.tyS x K H2
    repeat walk_at "rd"
    refine w_fldI e1 T.l_Float T.n_top (flds_t _ _ _) ?_
    repeat walk_at "rd"
    refine w_isi (.ty "str") tyf kf ?_
    repeat walk_at "rd"
    refine iB (fun c => ?_) (fun c => ?_)
    · have ex : floorM x = x := by cases x <;> first | rfl | cases c
      repeat walk_at "rd"
      exact u_eqF2 k2 k1 ex q
    obtain ⟨c1, c2⟩ := Bool.or_eq_false_iff.1 c
    obtain ⟨s0, t, p, rfl⟩ := is_fin c1 c2
    repeat walk_at "rd"
    refine w_fldI e1 T.l_Float T.n_top (flds_t _ _ _) ?_
    repeat walk_at "rd"
    refine w_eqI (i := t) (j := 0) ?_
    repeat walk_at "rd"
    refine iD (fun cz => ?_) (fun cz => ?_)
    · have ex : floorM (.fin s0 t p) = .fin s0 t p := by
        rw [floorM_fin, if_pos (by have := okx.2.2.2.1 cz; omega)]
      repeat walk_at "rd"
      exact u_eqF2 k2 k1 ex q
    replace cz : t ≠ 0 := cz
    have ub := ratU_bits okx
    have bb := ratB_b okx
    have sb : bits s0 ≤ 1 := (ok_bounds okx).1
    repeat walk_at "rd"
    refine ⟨x1, s0, t, p, rfl, k1, okx, fun q1 H3 s3 e3 => ?_⟩
    refine w_gtup e3 rfl ?_
    repeat walk_at "rd"
    refine w_fldI (s3 _ _ e1) T.l_Float T.n_sign (flds_s _ _ _) ?_
    refine w_I (cmulx (i := ratU t p) (j := s0) (by omega) (by omega)) ?_
    repeat walk_at "rd"
    refine w_I (cdivw (i := ratU t p * s0) (j := ratB p) (ratB_pos p) (by omega)) ?_
    have db : bits (ratU t p * s0 / ratB p) ≤ 1100 := by
      have h3 := bits_mul (ratU t p) s0
      have h4 := (bits_le (n := ratU t p * s0) (k := 1030)).1 (by omega)
      have h5 := Int.natAbs_ediv_le_natAbs (ratU t p * s0) (ratB p)
      have := (bits_le (n := ratU t p * s0 / ratB p) (k := 1030)).2 (by omega)
      omega
    repeat walk_at "rd"
    refine iD (fun cd => ?_) (fun cd => ?_)
    · repeat walk_at "rd"
      refine u_Float (.inl ⟨0, rfl, by decide, .inl rfl, by rw [red_zero]; decide, rfl⟩) fun x4 H4 s4 n4 k4 => ?_
      rw [red_zero] at k4
      exact u_eqF2 (k2.same (s3.trans s4)) k4 (floor_zero okx cz cd) fun H' s5 => q H' (s3.trans (s4.trans s5))
    · obtain ⟨r, u, qq, ef, ev⟩ := floor_due okx cz cd
      have oky : (floorM (.fin s0 t p)).ok := floorM_ok okx
      rw [ef] at k2 oky e2
      repeat walk_at "rd"
      refine ⟨x2, r, u, qq, rfl, k2.same s3, oky, fun q4 H4 s4 e4 => ?_⟩
      have ub2 := ratU_bits oky
      have bb2 := ratB_b oky
      have sb2 : bits r ≤ 1 := (ok_bounds oky).1
      repeat walk_at "rd"
      refine w_fldI (s4 _ _ (s3 _ _ e2)) T.l_Float T.n_sign (flds_s _ _ _) ?_
      repeat walk_at "rd"
      refine w_ixT e4 (v := .int (ratU u qq)) rfl ?_
      refine w_I (cmulx (i := r) (j := ratU u qq) (by omega) (by omega)) ?_
      repeat walk_at "rd"
      refine w_ixT e4 (v := .int (ratB qq)) rfl ?_
      refine w_I (cmulx (i := ratU t p * s0 / ratB p) (j := ratB qq) (by omega) (by omega)) ?_
      repeat walk_at "rd"
      show Q (.bl (decide (r * ratU u qq = ratU t p * s0 / ratB p * ratB qq))) H4
      rw [decide_eq_true ev]
      exact q H4 (s3.trans s4)
theorem sc_law_mod_right : FnScope ["one", "other", "found", "first", "second", "high", "low", "gap"] ["one", "other"] (defScope s_law_mod_right) := ⟨rfl, rfl, rfl, by decide +kernel, rfl, by decide +kernel, by decide +kernel⟩
theorem ok_mod_right (T : AllV K mg CF CE) (k_arith : Kn P w K mg base CX0 9 "arith" ["word", "one", "other"] (spAri CF)) (k_law_ratio : Kn P w K mg base CX0 1 "_law_ratio" ["number"] (spLRatio CF)) (k_Float_eq : KnM P w K mg base CX0 1 CF "__eq__" ["self", "other"] (spFEq CF))
    (k_Float_init : KnC P w K mg base CX0 2 "Float" CF ["self", "sign", "top", "power"] (spInit CF)) (k_law_is_nearest : Kn P w K mg base CX0 2 "_law_is_nearest" ["found", "sign", "top", "bottom"] (spIsNear CF)) : Kn P w K mg base CX0 10 "_law_mod_right" ["one", "other"] (spPair CF) := by
  refine T.x_mod_right.kn fun f fd F => ?_
  refine F.ok sc_law_mod_right (fun vs H Q E h => ?_) (fun cdv A outer s H vs Q E hr h => ?_)
  · obtain ⟨a, b, f, g, rfl, _⟩ := h
    rfl
  · obtain ⟨a, b, f, g, rfl, hf, hg, okf, okg, q⟩ := h
    refine ⟨_, (pss_cons (ps_set (i := 2) sc_law_mod_right.nd rfl (Or.inl rfl) (pk k_arith hr (pa_cons pe_str (pa_cons (pv 0) (pa_cons (pv 1) pa_nil)))))
      (pss_cons (ps_if (PW.pt (pw_or (pt_cmpR op_in_seq pe_str (pe_tup (pa_cons (pe_fld (pv 0) rfl) (pa_cons (pe_fld (pv 1) rfl) pa_nil))) rfl) (pw_or (pt_cmpR op_eq (pe_fld (pv 0) rfl) pe_str (nomark _)) (pw_or1 (pt_cmpR op_eq (pe_fld (pv 1) rfl) pe_int (nomark _)))))) (pss_one (ps_ret (pe_cmpR (op_eqOwn k_Float_eq hr) (pv 2) (pkC k_Float_init hr (pa_cons pe_int (pa_cons pe_str (pa_cons pe_int pa_nil)))) (nomark _)))) pss_nil)
      (pss_cons (ps_if (pt_cmpR op_eq (pe_fld (pv 1) rfl) pe_str (nomark _)) (pss_one (ps_ret (pe_cmpR (op_eqOwn k_Float_eq hr) (pv 2) (pe_ifExp (PW.pt (pw_or (pt_cmpR op_eq (pe_fld (pv 0) rfl) pe_int (nomark _)) (pw_or1 (pt_cmpR op_eq (pe_fld (pv 0) rfl) (pe_fld (pv 1) rfl) (nomark _))))) (pv 0) (pv 1)) (nomark _)))) pss_nil)
      (pss_cons (ps_par (by rfl) sc_law_mod_right.nd (i := 3) (j := 4) rfl rfl (by decide) rfl rfl (pa_cons (pk k_law_ratio hr (pa_cons (pv 0) pa_nil)) (pa_cons (pk k_law_ratio hr (pa_cons (pv 1) pa_nil)) pa_nil)) (by rfl))
      (pss_cons (ps_par (by rfl) sc_law_mod_right.nd (i := 5) (j := 6) rfl rfl (by decide) rfl rfl (pa_cons (pe_op op_mulX (pe_ix ix_tup (pv 3) pe_int (fun _ _ => rfl)) (pe_ix ix_tup (pv 4) pe_int (fun _ _ => rfl))) (pa_cons (pe_op op_mulX (pe_ix ix_tup (pv 4) pe_int (fun _ _ => rfl)) (pe_ix ix_tup (pv 3) pe_int (fun _ _ => rfl))) pa_nil)) (by rfl))
      (pss_cons (ps_set (i := 7) sc_law_mod_right.nd rfl (Or.inl rfl) (pe_op op_sub (pv 5) (pe_op op_mulX (pe_op op_fdivW (pv 5) (pv 6)) (pv 6))))
      (pss_cons (ps_if (pt_cmpR op_eq (pv 7) pe_int (nomark _)) (pss_one (ps_ret (pe_cmpR (op_eqOwn k_Float_eq hr) (pv 2) (pkC k_Float_init hr (pa_cons (pe_fld (pv 0) rfl) (pa_cons pe_int (pa_cons pe_int pa_nil)))) (nomark _)))) pss_nil)
      (C8.pss_cut (ps_if (pt_cmpR op_ne (pe_fld (pv 0) rfl) (pe_fld (pv 1) rfl) (nomark _)) (pss_one (ps_set (i := 7) sc_law_mod_right.nd rfl (Or.inl rfl) (pe_op op_sub (pv 6) (pv 7)))) pss_nil)
      (pss_one (ps_ret (pk k_law_is_nearest hr (pa_cons (pv 2) (pa_cons (pe_fld (pv 1) rfl) (pa_cons (pv 7) (pa_cons (pe_op op_mulX (pe_ix ix_tup (pv 3) pe_int (fun _ _ => rfl)) (pe_ix ix_tup (pv 4) pe_int (fun _ _ => rfl))) pa_nil))))))))))))))), ?_⟩
    repeat walk_at "rd"
    refine u_ari f_mod (.inr (.inl rfl)) (show NmAt CF H (.ref a) (.fl f) from ⟨a, rfl, hf, okf⟩) (show NmAt CF H (.ref b) (.fl g) from ⟨b, rfl, hg, okg⟩) fun x1 H1 s1 k1 => ?_
    have k1 : FlAt CF H1 x1 (ariM "mod" f g) := k1
    have hf := hf.same s1
    have hg := hg.same s1
    have q : ∀ H', Same H1 H' → Q (.bl true) H' := fun H' s => q H' (s1.trans s)
    obtain ⟨dx, h1⟩ := id hf
    obtain ⟨dy, h2⟩ := id hg
    repeat walk_at "rd"
    refine w_fldI h1 T.l_Float T.n_top (flds_t _ _ _) ?_
    repeat walk_at "rd"
    refine w_fldI h2 T.l_Float T.n_top (flds_t _ _ _) ?_
    repeat walk_at "rd"
    refine w_tup2 fun a1 H2 s2 n2 e2 => ?_
    refine w_in e2 rfl (by simp [Fl.flat]) ?_
    have ein : inV (.str "nan") [f.t, g.t] = (isNan f || isNan g) := by
      unfold inV
      simp only [List.any_cons, List.any_nil, Bool.or_false, nan_in1]
    rw [ein]
    have k1 := k1.same s2
    have hf := hf.same s2
    have hg := hg.same s2
    have h1 := s2 _ _ h1
    have h2 := s2 _ _ h2
    have q : ∀ H', Same H2 H' → Q (.bl true) H' := fun H' s => q H' (s2.trans s)
    repeat walk_at "rd"
    refine iB (fun z => ?_) (fun z => ?_)
    · rw [mod_nan (.inl z)] at k1
      repeat walk_at "rd"
      refine u_Float (.inr (.inr ⟨rfl, rfl, rfl, rfl⟩)) fun x H3 s3 n3 k3 => ?_
      exact u_eqF (k1.same s3) k3 fun H' s4 => q H' (s3.trans s4)
    repeat walk_at "rd"
    refine w_fldI h1 T.l_Float T.n_top (flds_t _ _ _) ?_
    repeat walk_at "rd"
    refine w_inf ?_
    repeat walk_at "rd"
    refine iB (fun z1 => ?_) (fun z1 => ?_)
    · rw [mod_nan (.inr (.inl z1))] at k1
      repeat walk_at "rd"
      refine u_Float (.inr (.inr ⟨rfl, rfl, rfl, rfl⟩)) fun x H3 s3 n3 k3 => ?_
      exact u_eqF (k1.same s3) k3 fun H' s4 => q H' (s3.trans s4)
    repeat walk_at "rd"
    refine w_fldI h2 T.l_Float T.n_top (flds_t _ _ _) ?_
    repeat walk_at "rd"
    refine w_zero ?_
    repeat walk_at "rd"
    refine iB (fun z2 => ?_) (fun z2 => ?_)
    · rw [mod_nan (.inr (.inr z2))] at k1
      repeat walk_at "rd"
      refine u_Float (.inr (.inr ⟨rfl, rfl, rfl, rfl⟩)) fun x H3 s3 n3 k3 => ?_
      exact u_eqF (k1.same s3) k3 fun H' s4 => q H' (s3.trans s4)
    rw [ari_mod, if_neg (by rw [z]; exact Bool.false_ne_true)] at k1
    obtain ⟨zf, zg⟩ := Bool.or_eq_false_iff.1 z
    obtain ⟨s, t, p, rfl⟩ := is_fin zf z1
    repeat walk_at "rd"
    refine w_fldI h2 T.l_Float T.n_top (flds_t _ _ _) ?_
    repeat walk_at "rd"
    refine w_inf ?_
    repeat walk_at "rd"
    refine iB (fun z3 => ?_) (fun z3 => ?_)
    · obtain ⟨r, rfl⟩ : ∃ r, g = .inf r := by
        cases g with
        | inf r => exact ⟨r, rfl⟩
        | fin _ _ _ => cases z3
        | nan => cases z3
      have er : remM (.fin s t p) (.inf r) = if t = 0 then .fin s t p else if s = r then .fin s t p else .inf r := by
        unfold remM
        rw [if_neg (show ¬ isInf (.fin s t p) = true from Bool.false_ne_true), if_neg (show ¬ isZero (.inf r) = true from Bool.false_ne_true)]
        show (if decide (t = 0) = true then _ else _) = _
        by_cases c : t = 0
        · rw [if_pos c, if_pos (decide_eq_true c)]
          rfl
        · rw [if_neg c, if_neg (by simpa using c)]
          rfl
      rw [er] at k1
      repeat walk_at "rd"
      refine w_fldI h1 T.l_Float T.n_top (flds_t _ _ _) ?_
      repeat walk_at "rd"
      refine w_eqI (i := t) (j := 0) ?_
      repeat walk_at "rd"
      refine iD (fun c => ?_) (fun c => ?_)
      · rw [if_pos c] at k1
        repeat walk_at "rd"
        exact u_eqF k1 hf q
      · rw [if_neg c] at k1
        repeat walk_at "rd"
        refine w_fldI h1 T.l_Float T.n_sign (flds_s _ _ _) ?_
        repeat walk_at "rd"
        refine w_fldI h2 T.l_Float T.n_sign (flds_s _ _ _) ?_
        repeat walk_at "rd"
        refine iD (fun c2 => ?_) (fun c2 => ?_)
        · rw [if_pos (show s = r from c2)] at k1
          repeat walk_at "rd"
          exact u_eqF k1 hf q
        · rw [if_neg (show ¬ s = r from c2)] at k1
          repeat walk_at "rd"
          exact u_eqF k1 hg q
    obtain ⟨r, u, p2, rfl⟩ := is_fin zg z3
    have hu : u ≠ 0 := of_decide_eq_false z2
    repeat walk_at "rd"
    refine ⟨a, s, t, p, rfl, hf, okf, fun q1 H3 s3 e3 => ?_⟩
    repeat walk_at "rd"
    refine ⟨b, r, u, p2, rfl, hg.same s3, okg, fun q2 H4 s4 e4 => ?_⟩
    have e3 := s4 _ _ e3
    have k1 := k1.same (s3.trans s4)
    have h1 := s4 _ _ (s3 _ _ h1)
    have h2 := s4 _ _ (s3 _ _ h2)
    have q : ∀ H', Same H4 H' → Q (.bl true) H' := fun H' s => q H' (s3.trans (s4.trans s))
    have U1 := ratU_bits okf
    have U2 := ratU_bits okg
    have B1 := ratB_b okf
    have B2 := ratB_b okg
    have lp := low_pos' p okg hu
    have b12 := bits_mul (ratU t p) (ratB p2)
    have b21 := bits_mul (ratU u p2) (ratB p)
    have bb := bits_mul (ratB p) (ratB p2)
    have hn : 0 ≤ ratU t p * ratB p2 := Int.mul_nonneg (ratU_nn okf) (Int.le_of_lt (ratB_pos p2))
    repeat walk_at "rd"
    refine w_ixT e3 (v := .int (ratU t p)) rfl ?_
    repeat walk_at "rd"
    refine w_ixT e4 (v := .int (ratB p2)) rfl ?_
    refine w_I (cmulx (i := ratU t p) (j := ratB p2) (by omega) (by omega)) ?_
    repeat walk_at "rd"
    refine w_ixT e4 (v := .int (ratU u p2)) rfl ?_
    repeat walk_at "rd"
    refine w_ixT e3 (v := .int (ratB p)) rfl ?_
    refine w_I (cmulx (i := ratU u p2) (j := ratB p) (by omega) (by omega)) ?_
    repeat walk_at "rd"
    refine w_I (cdivw (i := ratU t p * ratB p2) (j := ratU u p2 * ratB p) lp (by omega)) ?_
    repeat walk_at "rd"
    have dn : 0 ≤ ratU t p * ratB p2 / (ratU u p2 * ratB p) := Int.ediv_nonneg hn (Int.le_of_lt lp)
    have db : bits (ratU t p * ratB p2 / (ratU u p2 * ratB p)) ≤ 2200 := by
      have h5 := Int.ediv_le_self (ratU u p2 * ratB p) hn
      have := bits_mono dn h5
      omega
    refine w_I (cmulx (i := ratU t p * ratB p2 / (ratU u p2 * ratB p)) (j := ratU u p2 * ratB p) (by omega) (by omega)) ?_
    have eg : ratU t p * ratB p2 - ratU t p * ratB p2 / (ratU u p2 * ratB p) * (ratU u p2 * ratB p) = ratU t p * ratB p2 % (ratU u p2 * ratB p) := by
      have := Int.ediv_mul_add_emod (ratU t p * ratB p2) (ratU u p2 * ratB p)
      omega
    refine w_I0 ?_
    rw [eg]
    have g0 : 0 ≤ ratU t p * ratB p2 % (ratU u p2 * ratB p) := Int.emod_nonneg _ (by omega)
    have gl : ratU t p * ratB p2 % (ratU u p2 * ratB p) < ratU u p2 * ratB p := Int.emod_lt_of_pos _ lp
    have gb : bits (ratU t p * ratB p2 % (ratU u p2 * ratB p)) ≤ 2200 := by
      have := bits_mono g0 (Int.le_of_lt gl)
      omega
    have bp := Int.mul_pos (ratB_pos p) (ratB_pos p2)
    repeat walk_at "rd"
    refine iD (fun cz => ?_) (fun cz => ?_)
    · rw [mod_same okf okg hu (.inr cz), cz, show nearM s 0 (ratB p * ratB p2) = .fin s 0 0 from if_pos rfl] at k1
      repeat walk_at "rd"
      refine w_fldI h1 T.l_Float T.n_sign (flds_s _ _ _) ?_
      repeat walk_at "rd"
      refine u_Float (.inl ⟨0, rfl, by decide, okf.1, by rw [red_zero]; decide, rfl⟩) fun x5 H5 s5 n5 k5 => ?_
      rw [red_zero] at k5
      exact u_eqF (k1.same s5) k5 fun H' s6 => q H' (s5.trans s6)
    repeat walk_at "rd"
    refine w_cut (Mid := fun σ' H' => H' = H4 ∧ ∃ gp t' b' v1 v2, σ' = [some (.ref a), some (.ref b), some (.ref x1), some (.ref q1), some (.ref q2), v1, v2, some (.int gp)] ∧ 0 < gp ∧ bits gp ≤ 2200 ∧ FlAt CF H4 x1 (nearM r t' b') ∧ 0 < t' ∧ 0 < b' ∧ bits t' ≤ 2200 ∧ gp * b' = t' * (ratB p * ratB p2)) ?_ ?_
    · repeat walk_at "rd"
      refine w_fldI h1 T.l_Float T.n_sign (flds_s _ _ _) ?_
      repeat walk_at "rd"
      refine w_fldI h2 T.l_Float T.n_sign (flds_s _ _ _) ?_
      refine w_neI (i := s) (j := r) ?_
      repeat walk_at "rd"
      refine iN (fun cs => ?_) (fun cs => ?_)
      · obtain ⟨t', b', m1, m2, m3, m4, m5⟩ := mod_sum okf okg hu cz cs
        rw [m1] at k1
        repeat walk_at "rd"
        refine ⟨rfl, _, t', b', _, _, rfl, by omega, ?_, k1, m2, m3, m4, m5⟩
        have := bits_mono (a := ratU u p2 * ratB p - ratU t p * ratB p2 % (ratU u p2 * ratB p)) (b := ratU u p2 * ratB p) (by omega) (by omega)
        omega
      · rw [mod_same okf okg hu (.inl cs), cs] at k1
        repeat walk_at "rd"
        exact ⟨rfl, _, _, _, _, _, rfl, by omega, gb, k1, by omega, bp, gb, rfl⟩
    rintro σ' H' ⟨rfl, gp, t', b', v1, v2, rfl, gp0, gpb, kk, m2, m3, m4, m5⟩
    repeat walk_at "rd"
    refine w_fldI h2 T.l_Float T.n_sign (flds_s _ _ _) ?_
    repeat walk_at "rd"
    refine w_ixT e3 (v := .int (ratB p)) rfl ?_
    repeat walk_at "rd"
    refine w_ixT e4 (v := .int (ratB p2)) rfl ?_
    refine w_I (cmulx (i := ratB p) (j := ratB p2) (by omega) (by omega)) ?_
    repeat walk_at "rd"
    exact ⟨x1, r, gp, ratB p * ratB p2, t', b', rfl, okg.1, kk, gp0, bp, gpb, by omega, m2, m3, m4, m5, q⟩
end
end Nu

set_option Elab.async false
set_option linter.all false
set_option maxRecDepth 100000
set_option autoImplicit false
set_option maxHeartbeats 4000000
namespace Nu
open PySem PySem.Spec PyProof.Rows L2 Rd
local macro_rules | `(tactic| walk_at "hp") => `(tactic| first | assumption | (refine same_get ?sm ?_; (case sm => assumption); walk_at "hp"))
local macro_rules | `(tactic| walk_at "rd") => `(tactic| first
  | with_reducible refine w_nx ?_
  | with_reducible refine w_rt ?_
  | with_reducible refine w_bk ?_
  | with_reducible refine w_ct ?_
  | with_reducible refine w_seq ?_
  | with_reducible refine w_next ?_
  | with_reducible refine w_ret ?_
  | with_reducible refine w_ifS ?_
  | with_reducible refine w_asg ?_
  | with_reducible refine w_name ?_
  | with_reducible refine w_par ?_
  | with_reducible refine w_parI ?_
  | with_reducible refine w_ii ?_
  | with_reducible refine w_i1 ?_
  | with_reducible refine w_drop ?_
  | with_reducible refine w_sFld ?_
  | ((with_reducible refine' w_var ?rdh ?_); (case rdh => exact rfl))
  | with_reducible refine w_c ?_
  | with_reducible refine w_op ?_
  | with_reducible refine w_un ?_
  | with_reducible refine w_I0 ?_
  | with_reducible refine w_U ?_
  | with_reducible refine w_bits ?_
  | with_reducible refine w_bitsI ?_
  | with_reducible refine w_tup ?_
  | with_reducible refine w_lst ?_
  | with_reducible refine w_nil ?_
  | with_reducible refine w_cons ?_
  | with_reducible refine w_fld ?_
  | with_reducible refine w_call ?_
  | with_reducible refine w_make ?_
  | with_reducible refine w_gsub ?_
  | with_reducible refine w_int1 ?_
  | with_reducible refine w_intB ?_
  | with_reducible refine w_for ?_
  | with_reducible refine w_rng1 ?_
  | with_reducible refine w_iList ?_
  | with_reducible refine w_iTup ?_
  | with_reducible refine w_makeD ?_
  | with_reducible refine w_nn ?_
  | with_reducible refine w_subB ?_
  | with_reducible refine w_meth ?_
  | with_reducible refine w_cb ?_
  | with_reducible refine w_test ?_
  | with_reducible refine w_B ?_
  | with_reducible refine w_bl ?_
  | with_reducible refine w_andV ?_
  | with_reducible refine w_orV ?_
  | with_reducible refine w_notV ?_
  | with_reducible refine w_and ?_
  | with_reducible refine w_or ?_
  | with_reducible refine w_not ?_
  | with_reducible refine w_if ?_
  | with_reducible refine w_gnil ?_
  | with_reducible refine w_gcons ?_
  | with_reducible refine iT ?_
  | with_reducible refine iF ?_
  | with_reducible refine w_eqI ?_
  | with_reducible refine w_neI ?_
  | with_reducible refine w_eqS ?_
  | with_reducible refine w_eqIS ?_
  | with_reducible refine w_eqSI ?_)

section
variable {P : Program} {w : World} {K : PySem.W.Frag} {mg : Str → Option Value} {base : Heap} {CF CE : Addr}
theorem Well.here {n : Nat} {H : Hp} {p : Addr} (h : Well n H p) : ∃ xs, H p = some (.lst xs) := let ⟨_, _, _, e, _⟩ := h; ⟨_, e⟩
theorem FlAt.othL {H H' : Hp} {a x : Addr} {f : Fl} {xs : List V} (h : FlAt CF H x f) (hp : H a = some (.lst xs)) (o : Oth a H H') : FlAt CF H' x f := by
  obtain ⟨dx, e⟩ := h
  refine ⟨dx, o _ _ ?_ e⟩
  rintro rfl
  rw [e] at hp
  cases hp
theorem FlAt.othW {p : Addr} {H H' : Hp} {x : Addr} {k : Nat} {f : Fl} (h : FlAt CF H x f) (o : Oth p H H') (hw : Well k H p) : FlAt CF H' x f := let ⟨_, e⟩ := hw.here; h.othL e o
theorem u_flt {p : Addr} {n : Nat} {H : Hp} {Q : VK} {E : XK} (hw : Well n H p) (hn : n < 700000) (q : ∀ x f H', Oth p H H' → Well (n + 50) H' p → FlAt CF H' x f → f.ok → Q (.ref x) H') : spFlt CF ([V.ref p] ++ []) H Q E := ⟨p, n, rfl, hw, hn, q⟩
def spLaw (K : PySem.W.Frag) : Sp := fun vs H Q _ => ∃ (a : Addr) (ns : List Int), vs = [.ref a] ∧ SqL K H a (ns.map V.int) ∧ ns.length ≤ 63 ∧ (∀ z ∈ ns, bits z ≤ 1048576) ∧ ∀ H', Q (.bl true) H'
theorem sc_law : FnScope ["script", "cell", "well", "turn", "one", "other", "small", "number", "word"] ["script"] (defScope s_law) := ⟨rfl, rfl, rfl, by decide +kernel, rfl, by decide +kernel, by decide +kernel⟩
theorem ok_law (T : AllV K mg CF CE) (k_law_well : Kn P w K mg base CX0 1 "_law_well" ["cell"] spWell) (k_law_draw : Kn P w K mg base CX0 1 "_law_draw" ["well", "many"] spDraw) (k_law_one : Kn P w K mg base CX0 2 "_law_one" ["well", "some"] spOne) (k_law_float : Kn P w K mg base CX0 4 "_law_float" ["well"] (spFlt CF))
    (k_law_int : Kn P w K mg base CX0 3 "_law_int" ["well"] spInt) (k_law_ints_right : Kn P w K mg base CX0 10 "_law_ints_right" ["one", "other"] spIntsR) (k_law_floor_right : Kn P w K mg base CX0 10 "_law_floor_right" ["one", "other"] (spPair CF)) (k_law_mod_right : Kn P w K mg base CX0 10 "_law_mod_right" ["one", "other"] (spPair CF))
    (k_arith : Kn P w K mg base CX0 9 "arith" ["word", "one", "other"] (spAri CF)) (k_to_float : Kn P w K mg base CX0 6 "to_float" ["number"] (spToF K CF)) (k_Float_eq : KnM P w K mg base CX0 1 CF "__eq__" ["self", "other"] (spFEq CF)) (k_Float_init : KnC P w K mg base CX0 2 "Float" CF ["self", "sign", "top", "power"] (spInit CF))
    {f : Addr} {fd : FuncData} (F : Fun K "law" "law" s_law f fd) : FnOk P w K mg base CX0 12 f fd ["script"] (spLaw K) := by
  refine F.ok sc_law (fun vs H Q E h => ?_) (fun cdv A outer s H vs Q E hr h => ?_)
  · obtain ⟨a, ns, rfl, _⟩ := h
    rfl
  · obtain ⟨a, ns, rfl, hS, hl, hb, q⟩ := h
    refine ⟨_, (pss_cons (ps_for PassesOwn.never rfl (pi_list (pe_slice sl_list (pe_op op_catS (pv 0) (pe_lst (pa_cons pe_int pa_nil))) po_none (po_some pe_int))) (pg_name (i := 1) sc_law.nd rfl (Or.inl rfl))
      (pss_cons (ps_set (i := 2) sc_law.nd rfl (Or.inl rfl) (pk k_law_well hr (pa_cons (pv 1) pa_nil)))
      (pss_one (ps_for PassesOwn.never rfl (pi_range1 rfl T.b_range (pa_cons pe_int pa_nil)) (pg_name (i := 3) sc_law.nd rfl (Or.inl rfl))
      (pss_cons (ps_if (pt_not (pt_val (pk k_law_ints_right hr (pa_cons (pk k_law_int hr (pa_cons (pv 2) pa_nil)) (pa_cons (pk k_law_int hr (pa_cons (pv 2) pa_nil)) pa_nil))))) (pss_one (ps_ret pe_bl)) pss_nil)
      (pss_cons (ps_par (by rfl) sc_law.nd (i := 4) (j := 5) rfl rfl (by decide) rfl rfl (pa_cons (pk k_law_float hr (pa_cons (pv 2) pa_nil)) (pa_cons (pk k_law_float hr (pa_cons (pv 2) pa_nil)) pa_nil)) (by rfl))
      (pss_cons (ps_if (PW.pt (pw_or (pt_not (pt_val (pk k_law_floor_right hr (pa_cons (pv 4) (pa_cons (pv 5) pa_nil))))) (pw_or1 (pt_not (pt_val (pk k_law_mod_right hr (pa_cons (pv 4) (pa_cons (pv 5) pa_nil)))))))) (pss_one (ps_ret pe_bl)) pss_nil)
      (pss_cons (ps_set (i := 6) sc_law.nd rfl (Or.inl rfl) (pkC k_Float_init hr (pa_cons (pk k_law_one hr (pa_cons (pv 2) (pa_cons (pe_lst (pa_cons pe_int (pa_cons (pe_un un_neg pe_int) pa_nil))) pa_nil))) (pa_cons (pk k_law_draw hr (pa_cons (pv 2) (pa_cons pe_int pa_nil))) (pa_cons (pk k_law_one hr (pa_cons (pv 2) (pa_cons (pe_lst (pa_cons pe_int (pa_cons (pe_un un_neg pe_int) pa_nil))) pa_nil))) pa_nil)))))
      (pss_cons (ps_if (PW.pt (pw_or (pt_not (pt_val (pk k_law_mod_right hr (pa_cons (pv 4) (pa_cons (pv 6) pa_nil))))) (pw_or1 (pt_not (pt_val (pk k_law_floor_right hr (pa_cons (pv 4) (pa_cons (pv 6) pa_nil)))))))) (pss_one (ps_ret pe_bl)) pss_nil)
      (pss_cons (ps_set (i := 7) sc_law.nd rfl (Or.inl rfl) (pk k_law_int hr (pa_cons (pv 2) pa_nil)))
      (pss_one (ps_for PassesOwn.never rfl (pi_list (pe_lst (pa_cons pe_str (pa_cons pe_str pa_nil)))) (pg_name (i := 8) sc_law.nd rfl (Or.inl rfl))
      (pss_cons (ps_if (pt_cmpR (op_neOwn k_Float_eq T.q_Float hr) (pk k_arith hr (pa_cons (pv 8) (pa_cons (pv 7) (pa_cons (pv 5) pa_nil)))) (pk k_arith hr (pa_cons (pv 8) (pa_cons (pk k_to_float hr (pa_cons (pv 7) pa_nil)) (pa_cons (pv 5) pa_nil)))) (nomark _)) (pss_one (ps_ret pe_bl)) pss_nil)
      (pss_one (ps_if (pt_cmpR (op_neOwn k_Float_eq T.q_Float hr) (pk k_arith hr (pa_cons (pv 8) (pa_cons (pv 5) (pa_cons (pv 7) pa_nil)))) (pk k_arith hr (pa_cons (pv 8) (pa_cons (pv 5) (pa_cons (pk k_to_float hr (pa_cons (pv 7) pa_nil)) pa_nil)))) (nomark _)) (pss_one (ps_ret pe_bl)) pss_nil)))))))))))))))
      (pss_one (ps_ret pe_bl))), ?_⟩
    repeat walk_at "rd"
    refine w_sl ?_
    repeat walk_at "rd"
    refine w_lst1 fun b1 H1 s1 n1 h1 => ?_
    refine w_catS (hS.same s1) h1 (by rw [List.length_map]; exact Nat.le_trans (Nat.add_le_add_right hl _) (by show 63 + 1 ≤ sizeLine; decide)) fun b2 H2 s2 n2 h2 => ?_
    refine w_noPart ?_
    refine w_part ?_
    repeat walk_at "rd"
    refine w_slL h2 fun L H3 s3 n3 h3 => ?_
    refine w_iListI h3 ?_
    have hx : ∀ x ∈ cutV (ns.map V.int ++ [V.int 0]) none (some 8), ∃ z, x = .int z ∧ bits z ≤ 1048576 := by
      intro x hx
      have := cut_mem hx
      simp only [List.mem_append, List.mem_map, List.mem_cons, List.not_mem_nil, or_false] at this
      rcases this with ⟨z, hz, rfl⟩ | rfl
      · exact ⟨z, rfl, hb z hz⟩
      · exact ⟨0, rfl, by decide⟩
    generalize cutV (ns.map V.int ++ [V.int 0]) none (some 8) = xs at h3 hx
    refine for_list (xs := xs) (fun _ σ H' => ∃ c w t u1 u2 u3 u4 u5, σ = [some (.ref a), c, w, t, u1, u2, u3, u4, u5] ∧ H' L = some (.lst xs)) ⟨_, _, _, _, _, _, _, _, rfl, h3⟩ (fun i σ H' _ ⟨_, _, _, _, _, _, _, _, _, h⟩ => SqL.of h) ?_ ?_
    · rintro i x σ H4 hi ⟨c, w1, tt, u1, u2, u3, u4, u5, rfl, h4⟩
      obtain ⟨z, rfl, hz⟩ := hx x (List.mem_of_getElem? hi)
      repeat walk_at "rd"
      refine ⟨z, rfl, hz, fun p H5 s5 n5 w5 => ?_⟩
      have neL : L ≠ p := ne_of_none h4 n5
      have h5 := s5 _ _ h4
      repeat walk_at "rd"
      refine ⟨by decide, by decide, ?_⟩
      refine for_range (lo := 0) (fun i σ H' => ∃ tt u1 u2 u3 u4 u5, σ = [some (.ref a), some (.int z), some (.ref p), tt, u1, u2, u3, u4, u5] ∧ H' L = some (.lst xs) ∧ Well (i * 1000) H' p) ⟨_, _, _, _, _, _, rfl, h5, w5⟩ ?_ ?_
      · rintro k σ H6 hk ⟨t6, v1, v2, v3, v4, v5, rfl, hL6, w6⟩
        have hk : k < 6 := hk
        repeat walk_at "rd"
        refine u_int w6 (by omega) fun i1 H7 o7 w7 i1l i1u => ?_
        have hL7 := o7 _ _ neL hL6
        repeat walk_at "rd"
        refine u_int w7 (by omega) fun i2 H8 o8 w8 i2l i2u => ?_
        have hL8 := o8 _ _ neL hL7
        repeat walk_at "rd"
        refine ⟨i1, i2, rfl, i1l, i1u, i2l, i2u, fun H9 s9 => ?_⟩
        have hL9 := s9 _ _ hL8
        have w9 := w8.same s9
        repeat walk_at "rd"
        refine iF ?_
        repeat walk_at "rd"
        refine u_flt w9 (by omega) fun x1 f1 H10 o10 w10 k10 ok10 => ?_
        have hL10 := o10 _ _ neL hL9
        repeat walk_at "rd"
        refine u_flt w10 (by omega) fun x2 f2 H11 o11 w11 k11 ok11 => ?_
        have hL11 := o11 _ _ neL hL10
        have k10 := k10.othW o11 w10
        repeat walk_at "rd"
        refine u_pair k10 k11 ok10 ok11 fun H12 s12 => ?_
        repeat walk_at "rd"
        refine iF ?_
        repeat walk_at "rd"
        refine u_pair (k10.same s12) (k11.same s12) ok10 ok11 fun H13 s13 => ?_
        have t13 := s12.trans s13
        have w13 := w11.same t13
        have hL13 := t13 _ _ hL11
        have k10 := k10.same t13
        have k11 := k11.same t13
        repeat walk_at "rd"
        refine iF ?_
        repeat walk_at "rd"
        refine w_lst2 fun b14 H14 s14 n14 h14 => ?_
        repeat walk_at "rd"
        refine u_one (w13.same s14) (by omega) h14 (w13.ne n14) (by decide) (by decide) fun v H15 hv o15 w15 => ?_
        have k10 := (k10.same s14).othW o15 (w13.same s14)
        have k11 := (k11.same s14).othW o15 (w13.same s14)
        have hL15 := o15 _ _ neL (s14 _ _ hL13)
        obtain ⟨sg, rfl, hs⟩ : ∃ sg, v = .int sg ∧ (sg = 1 ∨ sg = -1) := by
          simp only [List.mem_cons, List.not_mem_nil, or_false] at hv
          rcases hv with rfl | rfl
          · exact ⟨_, rfl, .inl rfl⟩
          · exact ⟨_, rfl, .inr rfl⟩
        repeat walk_at "rd"
        refine u_draw w15 (by omega) (by decide) (by decide) fun tp H16 o16 w16 tpl tpu => ?_
        have k10 := k10.othW o16 w15
        have k11 := k11.othW o16 w15
        have hL16 := o16 _ _ neL hL15
        repeat walk_at "rd"
        refine w_lst2 fun b17 H17 s17 n17 h17 => ?_
        repeat walk_at "rd"
        refine u_one (w16.same s17) (by omega) h17 (w16.ne n17) (by decide) (by decide) fun v H18 hv o18 w18 => ?_
        have k10 := (k10.same s17).othW o18 (w16.same s17)
        have k11 := (k11.same s17).othW o18 (w16.same s17)
        have hL18 := o18 _ _ neL (s17 _ _ hL16)
        obtain ⟨pw, rfl, hp1, hp2⟩ : ∃ pw, v = .int pw ∧ -2 ≤ pw ∧ pw ≤ 0 := by
          simp only [List.mem_cons, List.not_mem_nil, or_false] at hv
          rcases hv with rfl | rfl <;> exact ⟨_, rfl, by decide, by decide⟩
        repeat walk_at "rd"
        have fa : FinA sg tp pw := ⟨hs, tpl, by omega, by omega, by omega⟩
        refine u_Float fa.arg fun x19 H19 s19 n19 k19 => ?_
        have ok19 := Arg.ok fa.arg
        have k10 := k10.same s19
        have k11 := k11.same s19
        have w19 := w18.same s19
        have hL19 := s19 _ _ hL18
        repeat walk_at "rd"
        refine u_pair k10 k19 ok10 ok19 fun H20 s20 => ?_
        repeat walk_at "rd"
        refine iF ?_
        repeat walk_at "rd"
        refine u_pair (k10.same s20) (k19.same s20) ok10 ok19 fun H21 s21 => ?_
        have t21 := s20.trans s21
        have k11 := k11.same t21
        have w21 := w19.same t21
        have hL21 := t21 _ _ hL19
        repeat walk_at "rd"
        refine iF ?_
        repeat walk_at "rd"
        refine u_int w21 (by omega) fun nu H22 o22 w22 nl nuu => ?_
        have k11 := k11.othW o22 w21
        have hL22 := o22 _ _ neL hL21
        have nb := bits64 nl (by omega)
        repeat walk_at "rd"
        refine w_lst2 fun W H23 s23 n23 h23 => ?_
        have k11 := k11.same s23
        have w23 := w22.same s23
        have hL23 := s23 _ _ hL22
        refine w_iListI h23 ?_
        refine for_list (xs := [.str "floor", .str "mod"]) (fun _ σ' H' => ∃ y, σ' = [some (.ref a), some (.int z), some (.ref p), some (.int (0 + ↑k)), some (.ref x1), some (.ref x2), some (.ref x19), some (.int nu), y] ∧ Same H23 H') ⟨_, rfl, Same.refl _⟩ (fun i σ H' _ ⟨_, _, s⟩ => SqL.of (s _ _ h23)) ?_ ?_
        · rintro i2' x σ' H24 hx2 ⟨y, rfl, s24⟩
          obtain ⟨wd, rfl, h4w⟩ : ∃ wd, x = .str wd ∧ Four wd := by
            have := List.mem_of_getElem? hx2
            simp only [List.mem_cons, List.not_mem_nil, or_false] at this
            rcases this with rfl | rfl
            · exact ⟨_, rfl, f_floor⟩
            · exact ⟨_, rfl, f_mod⟩
          have nO : ∀ {H'}, Same H23 H' → NmAt CF H' (.ref x2) (.fl f2) := fun s => ⟨x2, rfl, k11.same s, ok11⟩
          have nI : ∀ H', NmAt CF H' (.int nu) (.int nu) := fun H' => ⟨rfl, nb⟩
          repeat walk_at "rd"
          refine u_ari h4w (.inr (.inr rfl)) (nI _) (nO s24) fun y1 H25 s25 k25 => ?_
          repeat walk_at "rd"
          refine u_toF (nI _) fun y2 H26 s26 k26 ok26 => ?_
          have S26 := s24.trans (s25.trans s26)
          repeat walk_at "rd"
          refine u_ari h4w (.inr (.inl rfl)) (show NmAt CF H26 (.ref y2) (.fl (toF (.int nu))) from ⟨y2, rfl, k26, ok26⟩) (nO S26) fun y3 H27 s27 k27 => ?_
          refine u_eqF2 (k25.same (s26.trans s27)) k27 rfl fun H28 s28 => ?_
          have S28 := S26.trans (s27.trans s28)
          repeat walk_at "rd"
          refine iF ?_
          repeat walk_at "rd"
          refine u_ari h4w (.inr (.inl rfl)) (nO S28) (nI _) fun y4 H29 s29 k29 => ?_
          repeat walk_at "rd"
          refine u_toF (nI _) fun y5 H30 s30 k30 ok30 => ?_
          have S30 := S28.trans (s29.trans s30)
          repeat walk_at "rd"
          refine u_ari h4w (.inr (.inl rfl)) (nO S30) (show NmAt CF H30 (.ref y5) (.fl (toF (.int nu))) from ⟨y5, rfl, k30, ok30⟩) fun y6 H31 s31 k31 => ?_
          refine u_eqF2 (k29.same (s30.trans s31)) k31 rfl fun H32 s32 => ?_
          repeat walk_at "rd"
          refine iF ?_
          repeat walk_at "rd"
          exact ⟨_, rfl, S30.trans (s31.trans s32)⟩
        · rintro σ' H24 ⟨y, rfl, s24⟩
          exact ⟨_, _, _, _, _, _, rfl, s24 _ _ hL23, (w23.same s24).mono (by omega)⟩
      · rintro σ H6 ⟨t6, v1, v2, v3, v4, v5, rfl, hL6, w6⟩
        repeat walk_at "rd"
        exact ⟨_, _, _, _, _, _, _, _, rfl, hL6⟩
    · rintro σ' H4 ⟨c, w1, tt, u1, u2, u3, u4, u5, rfl, h4⟩
      repeat walk_at "rd"
      exact q H4
end
end Nu

set_option Elab.async false
set_option linter.all false
set_option maxRecDepth 100000
set_option autoImplicit false
set_option maxHeartbeats 4000000
namespace Nu
open PySem PySem.Spec PyProof.Rows L2 Rd
local macro_rules | `(tactic| walk_at "rd") => `(tactic| first
  | with_reducible refine w_nx ?_
  | with_reducible refine w_seq ?_
  | with_reducible refine w_drop ?_
  | with_reducible refine w_nil ?_
  | with_reducible refine w_cons ?_
  | ((with_reducible refine' w_var ?rdh ?_); (case rdh => exact rfl)))
theorem exm_own {K : PySem.W.Frag} {C : Addr} (h1 : PySem.W.subIn K (.ref C) (.type "BaseException") = some true) (h2 : PySem.W.isClsIn K C = true) (h3 : PySem.W.typeIn K (.ref C) = some (.type "type")) (h4 : PySem.W.subIn K (.ref C) (.ref C) = some true) : PySem.W.exmOne K (.ref C) (.ref C) = some true := by
  have e2 : (PySem.W.clsIn K C).isSome = true := h2
  unfold PySem.W.exmOne PySem.W.kitCls
  simp [h1, h3, h4, e2]
theorem w_ai {K : PySem.W.Frag} {ta : TA} {σ : L2.St} {H : Hp} {Q : VK} (h : ta σ H fun vs H1 => ∃ (a C : Addr) (ws : List V), vs = .ref a :: ws ∧ ws.length ≤ 1000 ∧ AexC K C ∧ H1 a = some (exo a C none) ∧ Q .non H1) : tAI K ta σ H Q := h
theorem w_ast {K : PySem.W.Frag} {f : Str} {to te : TE} {D : Ends} {σ : L2.St} {H : Hp} (h : te σ H fun y H1 => to σ H1 fun x H2 => ∃ a C : Addr, x = .ref a ∧ AexC K C ∧ PySem.W.findIn K (.ref C) f = some none ∧
  ((H2 a = some (exo a C none) ∧ ∀ dx, H2 dx = none → dx ≠ a → D.nx σ (upd (upd H2 a (exo a C (some dx))) dx (exd dx [(f, y)]))) ∨
    ∃ (dx : Addr) (fs : List (Str × V)), H2 a = some (exo a C (some dx)) ∧ H2 dx = some (exd dx fs) ∧ fs.length ≤ 900 ∧ D.nx σ (upd H2 dx (exd dx ((f, y) :: fs))))) : tAst K f to te D σ H := h
theorem sc_Thrown_init : FnScope ["self", "value", "level"] ["self", "value", "level"] (defScope s_Thrown_init) := ⟨rfl, rfl, rfl, by decide +kernel, rfl, by decide +kernel, by decide +kernel⟩
theorem thr_kn {P : Program} {w : World} {K : PySem.W.Frag} {mg : Str → Option Value} {base : Heap} {CF CE : Addr} (T : AllV K mg CF CE) {f : Addr} {fd : FuncData}
    (F : FunD K "__init__" "Thrown.__init__" (defArgs s_Thrown_init) (defBody s_Thrown_init) (defScope s_Thrown_init) [.int 1] [] f fd) (a : PySem.W.findIn K (.ref CE) "__init__" = some (some (.ref f))) (t : PySem.W.typeIn K (.ref f) = some (.type "function")) : KnTh P w K mg base CE := by
  obtain ⟨ds, hv, hb⟩ := F.binds1 (ps := ["self", "value", "level"]) 2 0 (by simp) (by decide)
    (fun TT kV doc pm an cdv ct us its h1 h2 => match us, its, h1, h2 with
      | [a, b], [c], _, _ => ⟨_, rfl, rfl⟩)
  refine ⟨f, fd, ds, T.g_Thrown, T.a_Thrown, a, t, hv, hb, ?_⟩
  refine F.ok sc_Thrown_init (fun vs H Q E h => ?_) (fun cdv A outer s H vs Q E hr h => ?_)
  · obtain ⟨x, v, rfl, _⟩ := h
    rfl
  · obtain ⟨x, v, rfl, hx, q⟩ := h
    refine ⟨_, PSs.nox (pss_cons (ps_expr (pe_ainit rfl T.b_AE T.v_AE (pa_cons (pv 0) (pa_cons (pv 1) pa_nil)))) (pss_cons (ps_ast (pv 0) (pv 1)) (pss_one (ps_ast (pv 0) (pv 2))))), ?_⟩
    repeat walk_at "rd"
    refine w_ai ?_
    repeat walk_at "rd"
    refine ⟨x, CE, [v], rfl, by show 1 ≤ 1000; decide, T.a_Thrown, hx, ?_⟩
    repeat walk_at "rd"
    refine w_ast ?_
    repeat walk_at "rd"
    refine ⟨x, CE, rfl, T.a_Thrown, T.xn_value, .inl ⟨hx, fun d hd hda => ?_⟩⟩
    repeat walk_at "rd"
    refine w_ast ?_
    repeat walk_at "rd"
    refine ⟨x, CE, rfl, T.a_Thrown, T.xn_level, .inr ⟨d, _, by rw [upd_ne (Ne.symm hda), upd_same], upd_same, by show 1 ≤ 900; decide, ?_⟩⟩
    exact q d hd hda
theorem ok_all {P : Program} {w : World} {K : PySem.W.Frag} {mg : Str → Option Value} {base : Heap} {CF CE : Addr} (T : AllV K mg CF CE) (kT : KnTh P w K mg base CE) {f : Addr} {fd : FuncData} (F : Fun K "law" "law" s_law f fd) : FnOk P w K mg base CX0 20 f fd ["script"] (spLaw K) := by
  have A := T.toAll
  have N := T.toAllN
  have k1 := ok_is_plain (P := P) (w := w) (base := base) A
  have k2 := ok_reduced (P := P) (w := w) (base := base) A
  have k3 := ok_fits (P := P) (w := w) (base := base) A
  have k4 := ok_sign_of (P := P) (w := w) (base := base) A
  have k5 := ok_init (P := P) (w := w) (base := base) A k1 k2 k3
  have k6 := ok_infinity (P := P) (w := w) (base := base) A k5
  have k7 := ok_nearest (P := P) (w := w) (base := base) A k5 k6
  have k9 := ok_ratio (P := P) (w := w) (base := base) A
  have k11 := ok_to_float (P := P) (w := w) (base := base) A k4 k7
  have k18 := ok_well (P := P) (w := w) (base := base) T.toAllL
  have k19 := ok_draw (P := P) (w := w) (base := base) T.toAllL
  have k20 := ok_one (P := P) (w := w) (base := base) T.toAllL k19
  have k21 := ok_great (P := P) (w := w) (base := base) T.toAllL k19
  have k22 := ok_finite (P := P) (w := w) (base := base) T.toAllM k19 k20 k21
  have k23 := ok_float (P := P) (w := w) (base := base) T.toAllM k19 k20 k22 k5
  have k24 := ok_nan (P := P) (w := w) (base := base) N k5
  have k25 := ok_added (P := P) (w := w) (base := base) N k24 k5 k9 k4 k7
  have e1 := ok_eq (P := P) (w := w) (base := base) N
  have n2 := ok_multiplied (P := P) (w := w) (base := base) N k24 k6 k9 k7
  have n3 := ok_divided (P := P) (w := w) (base := base) N k24 k6 k9 k5 k7
  have n4 := ok_floored (P := P) (w := w) (base := base) N k9 k4 k7
  have n5 := ok_remainder (P := P) (w := w) (base := base) N k24 k9 k7 k25
  have k26 := ok_by_floats (P := P) (w := w) (base := base) N k24 k25 n2 n3 n5 n4 k5
  have wr := ok_wrapped (P := P) (w := w) (base := base) N
  have k27 := ok_arith (P := P) (w := w) (base := base) N k26 k11 wr
  have x1 := ok_arithX (P := P) (w := w) (base := base) T.toAllE kT wr
  have x2 := ok_said (P := P) (w := w) (base := base) T.toAllE x1
  have l1 := ok_lratio (P := P) (w := w) (base := base) T.toAllO
  have l2 := ok_scaled (P := P) (w := w) (base := base) T.toAllO
  have l3 := ok_is_nearest (P := P) (w := w) (base := base) T.toAllO l2
  have v1 := ok_lwrapped (P := P) (w := w) (base := base) T
  have v2 := ok_int (P := P) (w := w) (base := base) T k19 k20 k21
  have v3 := ok_ints_right (P := P) (w := w) (base := base) T x2 v1 k27
  have v4 := ok_floor_right (P := P) (w := w) (base := base) T k27 l1 e1 k5
  have v5 := ok_mod_right (P := P) (w := w) (base := base) T k27 l1 e1 k5 l3
  exact (ok_law T k18 k19 k20 k23 v2 v3 v4 v5 k27 k11 e1 k5 F).mono (by decide)
theorem fin_mk {l : PySem.W.OpenLaw} {w : World} {K : PySem.W.Frag} {h : Heap} {mg : Str → Option Value} {fa : Addr} (X : K.In h) (G : h.Ns mainGlobals mg) (hfa : mg "law" = some (.ref fa))
    {t_LEAST : Tok}
    {t_MOST : Tok}
    {t_ROOM : Tok}
    {t_LOWEST : Tok}
    {t_TOO_GREAT : Tok}
    {CF : Addr}
    {f1 : Addr} {od1 an1 : Option Addr} {sl1 : Array (Option Value)} {oc1 dc1 pm1 cd1 ct1 kV1 : Value}
    {f2 : Addr} {od2 an2 : Option Addr} {sl2 : Array (Option Value)} {oc2 dc2 pm2 cd2 ct2 kV2 : Value}
    {f3 : Addr} {od3 an3 : Option Addr} {sl3 : Array (Option Value)} {oc3 dc3 pm3 cd3 ct3 kV3 : Value}
    {f4 : Addr} {od4 an4 : Option Addr} {sl4 : Array (Option Value)} {oc4 dc4 pm4 cd4 ct4 kV4 : Value}
    {f5 : Addr} {od5 an5 : Option Addr} {sl5 : Array (Option Value)} {oc5 dc5 pm5 cd5 ct5 kV5 : Value}
    {f6 : Addr} {od6 an6 : Option Addr} {sl6 : Array (Option Value)} {oc6 dc6 pm6 cd6 ct6 kV6 : Value}
    {f7 : Addr} {od7 an7 : Option Addr} {sl7 : Array (Option Value)} {oc7 dc7 pm7 cd7 ct7 kV7 : Value}
    {f8 : Addr} {od8 an8 : Option Addr} {sl8 : Array (Option Value)} {oc8 dc8 pm8 cd8 ct8 kV8 : Value}
    {f9 : Addr} {od9 an9 : Option Addr} {sl9 : Array (Option Value)} {oc9 dc9 pm9 cd9 ct9 kV9 : Value}
    {f10 : Addr} {od10 an10 : Option Addr} {sl10 : Array (Option Value)} {oc10 dc10 pm10 cd10 ct10 kV10 : Value}
    {f11 : Addr} {od11 an11 : Option Addr} {sl11 : Array (Option Value)} {oc11 dc11 pm11 cd11 ct11 kV11 : Value}
    {f12 : Addr} {od12 an12 : Option Addr} {sl12 : Array (Option Value)} {oc12 dc12 pm12 cd12 ct12 kV12 : Value}
    {f13 : Addr} {od13 an13 : Option Addr} {sl13 : Array (Option Value)} {oc13 dc13 pm13 cd13 ct13 kV13 : Value}
    {f14 : Addr} {od14 an14 : Option Addr} {sl14 : Array (Option Value)} {oc14 dc14 pm14 cd14 ct14 kV14 : Value}
    {f15 : Addr} {od15 an15 : Option Addr} {sl15 : Array (Option Value)} {oc15 dc15 pm15 cd15 ct15 kV15 : Value}
    {f16 : Addr} {od16 an16 : Option Addr} {sl16 : Array (Option Value)} {oc16 dc16 pm16 cd16 ct16 kV16 : Value}
    {f17 : Addr} {od17 an17 : Option Addr} {sl17 : Array (Option Value)} {oc17 dc17 pm17 cd17 ct17 kV17 : Value}
    {f18 : Addr} {od18 an18 : Option Addr} {sl18 : Array (Option Value)} {oc18 dc18 pm18 cd18 ct18 kV18 : Value}
    {f19 : Addr} {od19 an19 : Option Addr} {sl19 : Array (Option Value)} {oc19 dc19 pm19 cd19 ct19 kV19 : Value}
    {f20 : Addr} {od20 an20 : Option Addr} {sl20 : Array (Option Value)} {oc20 dc20 pm20 cd20 ct20 kV20 : Value}
    {f21 : Addr} {od21 an21 : Option Addr} {sl21 : Array (Option Value)} {oc21 dc21 pm21 cd21 ct21 kV21 : Value}
    {f22 : Addr} {od22 an22 : Option Addr} {sl22 : Array (Option Value)} {oc22 dc22 pm22 cd22 ct22 kV22 : Value}
    {f23 : Addr} {od23 an23 : Option Addr} {sl23 : Array (Option Value)} {oc23 dc23 pm23 cd23 ct23 kV23 : Value}
    {f24 : Addr} {od24 an24 : Option Addr} {sl24 : Array (Option Value)} {oc24 dc24 pm24 cd24 ct24 kV24 : Value}
    {f25 : Addr} {od25 an25 : Option Addr} {sl25 : Array (Option Value)} {oc25 dc25 pm25 cd25 ct25 kV25 : Value}
    {f26 : Addr} {od26 an26 : Option Addr} {sl26 : Array (Option Value)} {oc26 dc26 pm26 cd26 ct26 kV26 : Value}
    {f27 : Addr} {od27 an27 : Option Addr} {sl27 : Array (Option Value)} {oc27 dc27 pm27 cd27 ct27 kV27 : Value}
    {f28 : Addr} {od28 an28 : Option Addr} {sl28 : Array (Option Value)} {oc28 dc28 pm28 cd28 ct28 kV28 : Value}
    {f29 : Addr} {od29 an29 : Option Addr} {sl29 : Array (Option Value)} {oc29 dc29 pm29 cd29 ct29 kV29 : Value}
    {f30 : Addr} {od30 an30 : Option Addr} {sl30 : Array (Option Value)} {oc30 dc30 pm30 cd30 ct30 kV30 : Value}
    {f31 : Addr} {od31 an31 : Option Addr} {sl31 : Array (Option Value)} {oc31 dc31 pm31 cd31 ct31 kV31 : Value}
    {f32 : Addr} {od32 an32 : Option Addr} {sl32 : Array (Option Value)} {oc32 dc32 pm32 cd32 ct32 kV32 : Value}
    {f33 : Addr} {od33 an33 : Option Addr} {sl33 : Array (Option Value)} {oc33 dc33 pm33 cd33 ct33 kV33 : Value}
    {f34 : Addr} {od34 an34 : Option Addr} {sl34 : Array (Option Value)} {oc34 dc34 pm34 cd34 ct34 kV34 : Value}
    {f35 : Addr} {od35 an35 : Option Addr} {sl35 : Array (Option Value)} {oc35 dc35 pm35 cd35 ct35 kV35 : Value}
    {f36 : Addr} {od36 an36 : Option Addr} {sl36 : Array (Option Value)} {oc36 dc36 pm36 cd36 ct36 kV36 : Value}
    {CE : Addr} {f99 : Addr} {od99 an99 : Option Addr} {sl99 : Array (Option Value)} {oc99 dc99 pm99 cd99 ct99 kV99 : Value} {TD : Addr} {ocD : Value} {odD : Option Addr} {slD : Array (Option Value)} {tD1 : Tok} {nD : Nat}
    
    
    
    
    
    
    
    
    (b_isinstance : PySem.W.nsIn K mainGlobals "isinstance" = some none)
    (b_int : PySem.W.nsIn K mainGlobals "int" = some none)
    (b_str : PySem.W.nsIn K mainGlobals "str" = some none)
    (b_bool : PySem.W.nsIn K mainGlobals "bool" = some none)
    (b_abs : PySem.W.nsIn K mainGlobals "abs" = some none)
    (b_max : PySem.W.nsIn K mainGlobals "max" = some none)
    (b_min : PySem.W.nsIn K mainGlobals "min" = some none)
    (b_divmod : PySem.W.nsIn K mainGlobals "divmod" = some none)
    (b_len : PySem.W.nsIn K mainGlobals "len" = some none)
    (b_range : PySem.W.nsIn K mainGlobals "range" = some none)
    (c_LEAST : PySem.W.nsIn K mainGlobals "LEAST" = some (some (.int (-9223372036854775808) t_LEAST)))
    (c_MOST : PySem.W.nsIn K mainGlobals "MOST" = some (some (.int (9223372036854775807) t_MOST)))
    (c_ROOM : PySem.W.nsIn K mainGlobals "ROOM" = some (some (.int (9007199254740992) t_ROOM)))
    (c_LOWEST : PySem.W.nsIn K mainGlobals "LOWEST" = some (some (.int (-1074) t_LOWEST)))
    (c_TOO_GREAT : PySem.W.nsIn K mainGlobals "TOO_GREAT" = some (some (.int (1024) t_TOO_GREAT)))
    (g_Float : PySem.W.nsIn K mainGlobals "Float" = some (some (.ref CF)))
    (pg_Float : PySem.W.plainGet K CF Str.empty = true)
    (hd_Float : PySem.W.hasDictIn K CF = true)
    (po_Float : PySem.W.plainOver K CF = true)
    (sa_Float : PySem.W.findIn K (.ref CF) "__setattr__" = some (some (.builtin "object.__setattr__")))
    (yc_Float : PySem.W.findIn K (.ref CF) "__class__" = some (some (.builtin "object.__class__")))
    (ym_Float : PySem.W.mroIn K CF (.type "object") = some true)
    (n_sign : PySem.W.findIn K (.ref CF) "sign" = some none)
    (n_top : PySem.W.findIn K (.ref CF) "top" = some none)
    (n_power : PySem.W.findIn K (.ref CF) "power" = some none)
    (i_Fint : PySem.W.kitOne K (.ref CF) (.type "int") = some false)
    (i_Fbool : PySem.W.kitOne K (.ref CF) (.type "bool") = some false)
    (i_Fstr : PySem.W.kitOne K (.ref CF) (.type "str") = some false)
    (i_intF : PySem.W.kitOne K (.type "int") (.ref CF) = some false)
    (i_boolF : PySem.W.kitOne K (.type "bool") (.ref CF) = some false)
    (i_strF : PySem.W.kitOne K (.type "str") (.ref CF) = some false)
    (i_nonF : PySem.W.kitOne K (.type "NoneType") (.ref CF) = some false)
    (mk_Float : PySem.W.makesIn K CF = true)
    (kc_Float : PySem.W.keepIn K (.ref CF) = true)
    (y_spec : PySem.W.specialIn K (.builtin "object.__class__") "__get__" = some (some (.builtin "getset_descriptor.__get__")))
    (y_takes : PySem.W.takesIn K (.builtin "object.__class__") = some true)
    (a1 : PySem.W.findIn K (.ref CF) "__init__" = some (some (.ref f1)))
    (l1 : K.lookup f1 = some ⟨oc1, od1, .func (PySem.W.fnOf "__init__" "Float.__init__" (defArgs s_Float_init) (defBody s_Float_init) (defScope s_Float_init) .none kV1 dc1 pm1 an1 cd1 ct1), sl1⟩)
    (c1 : PySem.W.codeIn K cd1 "Float.__init__" = true)
    (k1 : PySem.W.keepIn K (.ref f1) = true)
    (i1 : PySem.W.isFn K (.ref f1) = true)
    (a2 : PySem.W.findIn K (.ref CF) "is_finite" = some (some (.ref f2)))
    (l2 : K.lookup f2 = some ⟨oc2, od2, .func (PySem.W.fnOf "is_finite" "Float.is_finite" (defArgs s_Float_is_finite) (defBody s_Float_is_finite) (defScope s_Float_is_finite) .none kV2 dc2 pm2 an2 cd2 ct2), sl2⟩)
    (c2 : PySem.W.codeIn K cd2 "Float.is_finite" = true)
    (k2 : PySem.W.keepIn K (.ref f2) = true)
    (i2 : PySem.W.isFn K (.ref f2) = true)
    (a3 : PySem.W.findIn K (.ref CF) "ratio" = some (some (.ref f3)))
    (l3 : K.lookup f3 = some ⟨oc3, od3, .func (PySem.W.fnOf "ratio" "Float.ratio" (defArgs s_Float_ratio) (defBody s_Float_ratio) (defScope s_Float_ratio) .none kV3 dc3 pm3 an3 cd3 ct3), sl3⟩)
    (c3 : PySem.W.codeIn K cd3 "Float.ratio" = true)
    (k3 : PySem.W.keepIn K (.ref f3) = true)
    (i3 : PySem.W.isFn K (.ref f3) = true)
    (a4 : PySem.W.findIn K (.ref CF) "__eq__" = some (some (.ref f4)))
    (l4 : K.lookup f4 = some ⟨oc4, od4, .func (PySem.W.fnOf "__eq__" "Float.__eq__" (defArgs s_Float_eq) (defBody s_Float_eq) (defScope s_Float_eq) .none kV4 dc4 pm4 an4 cd4 ct4), sl4⟩)
    (c4 : PySem.W.codeIn K cd4 "Float.__eq__" = true)
    (k4 : PySem.W.keepIn K (.ref f4) = true)
    (i4 : PySem.W.isFn K (.ref f4) = true)
    (a5 : PySem.W.nsIn K mainGlobals "is_plain" = some (some (.ref f5)))
    (l5 : K.lookup f5 = some ⟨oc5, od5, .func (PySem.W.fnOf "is_plain" "is_plain" (defArgs s_is_plain) (defBody s_is_plain) (defScope s_is_plain) .none kV5 dc5 pm5 an5 cd5 ct5), sl5⟩)
    (c5 : PySem.W.codeIn K cd5 "is_plain" = true)
    (k5 : PySem.W.keepIn K (.ref f5) = true)
    (a6 : PySem.W.nsIn K mainGlobals "reduced" = some (some (.ref f6)))
    (l6 : K.lookup f6 = some ⟨oc6, od6, .func (PySem.W.fnOf "reduced" "reduced" (defArgs s_reduced) (defBody s_reduced) (defScope s_reduced) .none kV6 dc6 pm6 an6 cd6 ct6), sl6⟩)
    (c6 : PySem.W.codeIn K cd6 "reduced" = true)
    (k6 : PySem.W.keepIn K (.ref f6) = true)
    (a7 : PySem.W.nsIn K mainGlobals "fits" = some (some (.ref f7)))
    (l7 : K.lookup f7 = some ⟨oc7, od7, .func (PySem.W.fnOf "fits" "fits" (defArgs s_fits) (defBody s_fits) (defScope s_fits) .none kV7 dc7 pm7 an7 cd7 ct7), sl7⟩)
    (c7 : PySem.W.codeIn K cd7 "fits" = true)
    (k7 : PySem.W.keepIn K (.ref f7) = true)
    (a8 : PySem.W.nsIn K mainGlobals "sign_of" = some (some (.ref f8)))
    (l8 : K.lookup f8 = some ⟨oc8, od8, .func (PySem.W.fnOf "sign_of" "sign_of" (defArgs s_sign_of) (defBody s_sign_of) (defScope s_sign_of) .none kV8 dc8 pm8 an8 cd8 ct8), sl8⟩)
    (c8 : PySem.W.codeIn K cd8 "sign_of" = true)
    (k8 : PySem.W.keepIn K (.ref f8) = true)
    (a9 : PySem.W.nsIn K mainGlobals "infinity" = some (some (.ref f9)))
    (l9 : K.lookup f9 = some ⟨oc9, od9, .func (PySem.W.fnOf "infinity" "infinity" (defArgs s_infinity) (defBody s_infinity) (defScope s_infinity) .none kV9 dc9 pm9 an9 cd9 ct9), sl9⟩)
    (c9 : PySem.W.codeIn K cd9 "infinity" = true)
    (k9 : PySem.W.keepIn K (.ref f9) = true)
    (a10 : PySem.W.nsIn K mainGlobals "nearest" = some (some (.ref f10)))
    (l10 : K.lookup f10 = some ⟨oc10, od10, .func (PySem.W.fnOf "nearest" "nearest" (defArgs s_nearest) (defBody s_nearest) (defScope s_nearest) .none kV10 dc10 pm10 an10 cd10 ct10), sl10⟩)
    (c10 : PySem.W.codeIn K cd10 "nearest" = true)
    (k10 : PySem.W.keepIn K (.ref f10) = true)
    (a11 : PySem.W.nsIn K mainGlobals "to_float" = some (some (.ref f11)))
    (l11 : K.lookup f11 = some ⟨oc11, od11, .func (PySem.W.fnOf "to_float" "to_float" (defArgs s_to_float) (defBody s_to_float) (defScope s_to_float) .none kV11 dc11 pm11 an11 cd11 ct11), sl11⟩)
    (c11 : PySem.W.codeIn K cd11 "to_float" = true)
    (k11 : PySem.W.keepIn K (.ref f11) = true)
    (a12 : PySem.W.nsIn K mainGlobals "_law_well" = some (some (.ref f12)))
    (l12 : K.lookup f12 = some ⟨oc12, od12, .func (PySem.W.fnOf "_law_well" "_law_well" (defArgs s_law_well) (defBody s_law_well) (defScope s_law_well) .none kV12 dc12 pm12 an12 cd12 ct12), sl12⟩)
    (c12 : PySem.W.codeIn K cd12 "_law_well" = true)
    (k12 : PySem.W.keepIn K (.ref f12) = true)
    (a13 : PySem.W.nsIn K mainGlobals "_law_draw" = some (some (.ref f13)))
    (l13 : K.lookup f13 = some ⟨oc13, od13, .func (PySem.W.fnOf "_law_draw" "_law_draw" (defArgs s_law_draw) (defBody s_law_draw) (defScope s_law_draw) .none kV13 dc13 pm13 an13 cd13 ct13), sl13⟩)
    (c13 : PySem.W.codeIn K cd13 "_law_draw" = true)
    (k13 : PySem.W.keepIn K (.ref f13) = true)
    (a14 : PySem.W.nsIn K mainGlobals "_law_one" = some (some (.ref f14)))
    (l14 : K.lookup f14 = some ⟨oc14, od14, .func (PySem.W.fnOf "_law_one" "_law_one" (defArgs s_law_one) (defBody s_law_one) (defScope s_law_one) .none kV14 dc14 pm14 an14 cd14 ct14), sl14⟩)
    (c14 : PySem.W.codeIn K cd14 "_law_one" = true)
    (k14 : PySem.W.keepIn K (.ref f14) = true)
    (a15 : PySem.W.nsIn K mainGlobals "_law_great" = some (some (.ref f15)))
    (l15 : K.lookup f15 = some ⟨oc15, od15, .func (PySem.W.fnOf "_law_great" "_law_great" (defArgs s_law_great) (defBody s_law_great) (defScope s_law_great) .none kV15 dc15 pm15 an15 cd15 ct15), sl15⟩)
    (c15 : PySem.W.codeIn K cd15 "_law_great" = true)
    (k15 : PySem.W.keepIn K (.ref f15) = true)
    (a16 : PySem.W.nsIn K mainGlobals "_law_finite" = some (some (.ref f16)))
    (l16 : K.lookup f16 = some ⟨oc16, od16, .func (PySem.W.fnOf "_law_finite" "_law_finite" (defArgs s_law_finite) (defBody s_law_finite) (defScope s_law_finite) .none kV16 dc16 pm16 an16 cd16 ct16), sl16⟩)
    (c16 : PySem.W.codeIn K cd16 "_law_finite" = true)
    (k16 : PySem.W.keepIn K (.ref f16) = true)
    (a17 : PySem.W.nsIn K mainGlobals "_law_float" = some (some (.ref f17)))
    (l17 : K.lookup f17 = some ⟨oc17, od17, .func (PySem.W.fnOf "_law_float" "_law_float" (defArgs s_law_float) (defBody s_law_float) (defScope s_law_float) .none kV17 dc17 pm17 an17 cd17 ct17), sl17⟩)
    (c17 : PySem.W.codeIn K cd17 "_law_float" = true)
    (k17 : PySem.W.keepIn K (.ref f17) = true)
    (a18 : PySem.W.nsIn K mainGlobals "nan" = some (some (.ref f18)))
    (l18 : K.lookup f18 = some ⟨oc18, od18, .func (PySem.W.fnOf "nan" "nan" (defArgs s_nan) (defBody s_nan) (defScope s_nan) .none kV18 dc18 pm18 an18 cd18 ct18), sl18⟩)
    (c18 : PySem.W.codeIn K cd18 "nan" = true)
    (k18 : PySem.W.keepIn K (.ref f18) = true)
    (a19 : PySem.W.nsIn K mainGlobals "added" = some (some (.ref f19)))
    (l19 : K.lookup f19 = some ⟨oc19, od19, .func (PySem.W.fnOf "added" "added" (defArgs s_added) (defBody s_added) (defScope s_added) .none kV19 dc19 pm19 an19 cd19 ct19), sl19⟩)
    (c19 : PySem.W.codeIn K cd19 "added" = true)
    (k19 : PySem.W.keepIn K (.ref f19) = true)
    (a20 : PySem.W.nsIn K mainGlobals "multiplied" = some (some (.ref f20)))
    (l20 : K.lookup f20 = some ⟨oc20, od20, .func (PySem.W.fnOf "multiplied" "multiplied" (defArgs s_multiplied) (defBody s_multiplied) (defScope s_multiplied) .none kV20 dc20 pm20 an20 cd20 ct20), sl20⟩)
    (c20 : PySem.W.codeIn K cd20 "multiplied" = true)
    (k20 : PySem.W.keepIn K (.ref f20) = true)
    (a21 : PySem.W.nsIn K mainGlobals "divided" = some (some (.ref f21)))
    (l21 : K.lookup f21 = some ⟨oc21, od21, .func (PySem.W.fnOf "divided" "divided" (defArgs s_divided) (defBody s_divided) (defScope s_divided) .none kV21 dc21 pm21 an21 cd21 ct21), sl21⟩)
    (c21 : PySem.W.codeIn K cd21 "divided" = true)
    (k21 : PySem.W.keepIn K (.ref f21) = true)
    (a22 : PySem.W.nsIn K mainGlobals "floored" = some (some (.ref f22)))
    (l22 : K.lookup f22 = some ⟨oc22, od22, .func (PySem.W.fnOf "floored" "floored" (defArgs s_floored) (defBody s_floored) (defScope s_floored) .none kV22 dc22 pm22 an22 cd22 ct22), sl22⟩)
    (c22 : PySem.W.codeIn K cd22 "floored" = true)
    (k22 : PySem.W.keepIn K (.ref f22) = true)
    (a23 : PySem.W.nsIn K mainGlobals "remainder" = some (some (.ref f23)))
    (l23 : K.lookup f23 = some ⟨oc23, od23, .func (PySem.W.fnOf "remainder" "remainder" (defArgs s_remainder) (defBody s_remainder) (defScope s_remainder) .none kV23 dc23 pm23 an23 cd23 ct23), sl23⟩)
    (c23 : PySem.W.codeIn K cd23 "remainder" = true)
    (k23 : PySem.W.keepIn K (.ref f23) = true)
    (a24 : PySem.W.nsIn K mainGlobals "by_floats" = some (some (.ref f24)))
    (l24 : K.lookup f24 = some ⟨oc24, od24, .func (PySem.W.fnOf "by_floats" "by_floats" (defArgs s_by_floats) (defBody s_by_floats) (defScope s_by_floats) .none kV24 dc24 pm24 an24 cd24 ct24), sl24⟩)
    (c24 : PySem.W.codeIn K cd24 "by_floats" = true)
    (k24 : PySem.W.keepIn K (.ref f24) = true)
    (a25 : PySem.W.nsIn K mainGlobals "arith" = some (some (.ref f25)))
    (l25 : K.lookup f25 = some ⟨oc25, od25, .func (PySem.W.fnOf "arith" "arith" (defArgs s_arith) (defBody s_arith) (defScope s_arith) .none kV25 dc25 pm25 an25 cd25 ct25), sl25⟩)
    (c25 : PySem.W.codeIn K cd25 "arith" = true)
    (k25 : PySem.W.keepIn K (.ref f25) = true)
    (a26 : PySem.W.nsIn K mainGlobals "wrapped" = some (some (.ref f26)))
    (l26 : K.lookup f26 = some ⟨oc26, od26, .func (PySem.W.fnOf "wrapped" "wrapped" (defArgs s_wrapped) (defBody s_wrapped) (defScope s_wrapped) .none kV26 dc26 pm26 an26 cd26 ct26), sl26⟩)
    (c26 : PySem.W.codeIn K cd26 "wrapped" = true)
    (k26 : PySem.W.keepIn K (.ref f26) = true)
    (a27 : PySem.W.nsIn K mainGlobals "_law_ratio" = some (some (.ref f27)))
    (l27 : K.lookup f27 = some ⟨oc27, od27, .func (PySem.W.fnOf "_law_ratio" "_law_ratio" (defArgs s_law_ratio) (defBody s_law_ratio) (defScope s_law_ratio) .none kV27 dc27 pm27 an27 cd27 ct27), sl27⟩)
    (c27 : PySem.W.codeIn K cd27 "_law_ratio" = true)
    (k27 : PySem.W.keepIn K (.ref f27) = true)
    (a28 : PySem.W.nsIn K mainGlobals "_law_is_nearest" = some (some (.ref f28)))
    (l28 : K.lookup f28 = some ⟨oc28, od28, .func (PySem.W.fnOf "_law_is_nearest" "_law_is_nearest" (defArgs s_law_is_nearest) (defBody s_law_is_nearest) (defScope s_law_is_nearest) .none kV28 dc28 pm28 an28 cd28 ct28), sl28⟩)
    (c28 : PySem.W.codeIn K cd28 "_law_is_nearest" = true)
    (k28 : PySem.W.keepIn K (.ref f28) = true)
    (a29 : PySem.W.nsIn K mainGlobals "_law_scaled" = some (some (.ref f29)))
    (l29 : K.lookup f29 = some ⟨oc29, od29, .func (PySem.W.fnOf "_law_scaled" "_law_scaled" (defArgs s_law_scaled) (defBody s_law_scaled) (defScope s_law_scaled) .none kV29 dc29 pm29 an29 cd29 ct29), sl29⟩)
    (c29 : PySem.W.codeIn K cd29 "_law_scaled" = true)
    (k29 : PySem.W.keepIn K (.ref f29) = true)
    (a30 : PySem.W.nsIn K mainGlobals "_law_said" = some (some (.ref f30)))
    (l30 : K.lookup f30 = some ⟨oc30, od30, .func (PySem.W.fnOf "_law_said" "_law_said" (defArgs s_law_said) (defBody s_law_said) (defScope s_law_said) .none kV30 dc30 pm30 an30 cd30 ct30), sl30⟩)
    (c30 : PySem.W.codeIn K cd30 "_law_said" = true)
    (k30 : PySem.W.keepIn K (.ref f30) = true)
    (a31 : PySem.W.nsIn K mainGlobals "_law_wrapped" = some (some (.ref f31)))
    (l31 : K.lookup f31 = some ⟨oc31, od31, .func (PySem.W.fnOf "_law_wrapped" "_law_wrapped" (defArgs s_law_wrapped) (defBody s_law_wrapped) (defScope s_law_wrapped) .none kV31 dc31 pm31 an31 cd31 ct31), sl31⟩)
    (c31 : PySem.W.codeIn K cd31 "_law_wrapped" = true)
    (k31 : PySem.W.keepIn K (.ref f31) = true)
    (a32 : PySem.W.nsIn K mainGlobals "_law_int" = some (some (.ref f32)))
    (l32 : K.lookup f32 = some ⟨oc32, od32, .func (PySem.W.fnOf "_law_int" "_law_int" (defArgs s_law_int) (defBody s_law_int) (defScope s_law_int) .none kV32 dc32 pm32 an32 cd32 ct32), sl32⟩)
    (c32 : PySem.W.codeIn K cd32 "_law_int" = true)
    (k32 : PySem.W.keepIn K (.ref f32) = true)
    (a33 : PySem.W.nsIn K mainGlobals "_law_ints_right" = some (some (.ref f33)))
    (l33 : K.lookup f33 = some ⟨oc33, od33, .func (PySem.W.fnOf "_law_ints_right" "_law_ints_right" (defArgs s_law_ints_right) (defBody s_law_ints_right) (defScope s_law_ints_right) .none kV33 dc33 pm33 an33 cd33 ct33), sl33⟩)
    (c33 : PySem.W.codeIn K cd33 "_law_ints_right" = true)
    (k33 : PySem.W.keepIn K (.ref f33) = true)
    (a34 : PySem.W.nsIn K mainGlobals "_law_floor_right" = some (some (.ref f34)))
    (l34 : K.lookup f34 = some ⟨oc34, od34, .func (PySem.W.fnOf "_law_floor_right" "_law_floor_right" (defArgs s_law_floor_right) (defBody s_law_floor_right) (defScope s_law_floor_right) .none kV34 dc34 pm34 an34 cd34 ct34), sl34⟩)
    (c34 : PySem.W.codeIn K cd34 "_law_floor_right" = true)
    (k34 : PySem.W.keepIn K (.ref f34) = true)
    (a35 : PySem.W.nsIn K mainGlobals "_law_mod_right" = some (some (.ref f35)))
    (l35 : K.lookup f35 = some ⟨oc35, od35, .func (PySem.W.fnOf "_law_mod_right" "_law_mod_right" (defArgs s_law_mod_right) (defBody s_law_mod_right) (defScope s_law_mod_right) .none kV35 dc35 pm35 an35 cd35 ct35), sl35⟩)
    (c35 : PySem.W.codeIn K cd35 "_law_mod_right" = true)
    (k35 : PySem.W.keepIn K (.ref f35) = true)
    (a36 : PySem.W.nsIn K mainGlobals "law" = some (some (.ref f36)))
    (l36 : K.lookup f36 = some ⟨oc36, od36, .func (PySem.W.fnOf "law" "law" (defArgs s_law) (defBody s_law) (defScope s_law) .none kV36 dc36 pm36 an36 cd36 ct36), sl36⟩)
    (c36 : PySem.W.codeIn K cd36 "law" = true)
    (k36 : PySem.W.keepIn K (.ref f36) = true)
    (g_Thrown : PySem.W.nsIn K mainGlobals "Thrown" = some (some (.ref CE)))
    (th_made : PySem.W.excInitIn K CE aeMro "ArithmeticError.__new__" = true)
    (th_over : PySem.W.excOver K CE aeMro = true)
    (th_hd : PySem.W.hasDictIn K CE = true)
    (th_sa : PySem.W.findIn K (.ref CE) "__setattr__" = some (some (.builtin "object.__setattr__")))
    (th_ex : PySem.W.subIn K (.ref CE) (.type "BaseException") = some true)
    (th_ty : PySem.W.typeIn K (.ref CE) = some (.type "type"))
    (th_kp : PySem.W.keepIn K (.ref CE) = true)
    (th_ga : PySem.W.findIn K (.ref CE) "__getattribute__" = some (some (.builtin "BaseException.__getattribute__")))
    (th_gg : PySem.W.findIn K (.ref CE) "__getattr__" = some none)
    (xn_value : PySem.W.findIn K (.ref CE) "value" = some none)
    (xn_level : PySem.W.findIn K (.ref CE) "level" = some none)
    (th_ic : PySem.W.isClsIn K CE = true)
    (th_sc : PySem.W.subIn K (.ref CE) (.ref CE) = some true)
    (b_AE : PySem.W.nsIn K mainGlobals "ArithmeticError" = some none)
    (v_AE : PySem.W.findCls K (.type "ArithmeticError") (.type "type") "__init__" = some (.val (.builtin "ArithmeticError.__init__")))
    (a99 : PySem.W.findIn K (.ref CE) "__init__" = some (some (.ref f99)))
    (l99 : K.lookup f99 = some ⟨oc99, od99, .func (PySem.W.fnOf "__init__" "Thrown.__init__" (defArgs s_Thrown_init) (defBody s_Thrown_init) (defScope s_Thrown_init) (.ref TD) kV99 dc99 pm99 an99 cd99 ct99), sl99⟩)
    (c99 : PySem.W.codeIn K cd99 "Thrown.__init__" = true)
    (k99 : PySem.W.keepIn K (.ref f99) = true)
    (i99 : PySem.W.typeIn K (.ref f99) = some (.type "function"))
    (lD : K.lookup TD = some ⟨ocD, odD, .seq [Value.int 1 tD1].toArray nD, slD⟩)
    (ne_Float : PySem.W.findIn K (.ref CF) "__ne__" = some (some (.builtin "object.__ne__")))
    : ∃ fd : FuncData, (∀ (s : Shared) (v : Value), BindsTo s fd ⟨[v], []⟩ [("script", v)]) ∧ ∀ base : Heap, K.In base → base.Ns mainGlobals mg → FnOk l.prog w K mg base CX0 20 fa fd ["script"] (spLaw K) := by
  have e := hfa.symm.trans (PySem.W.mg_of X G a36)
  cases e
  have T : AllV K mg CF CE := {
    b_isinstance := PySem.W.mg_none_of X G b_isinstance
    b_int := PySem.W.mg_none_of X G b_int
    b_str := PySem.W.mg_none_of X G b_str
    b_bool := PySem.W.mg_none_of X G b_bool
    b_abs := PySem.W.mg_none_of X G b_abs
    b_max := PySem.W.mg_none_of X G b_max
    b_min := PySem.W.mg_none_of X G b_min
    b_divmod := PySem.W.mg_none_of X G b_divmod
    b_len := PySem.W.mg_none_of X G b_len
    b_range := PySem.W.mg_none_of X G b_range
    c_LEAST := ⟨_, PySem.W.mg_of X G c_LEAST⟩
    c_MOST := ⟨_, PySem.W.mg_of X G c_MOST⟩
    c_ROOM := ⟨_, PySem.W.mg_of X G c_ROOM⟩
    c_LOWEST := ⟨_, PySem.W.mg_of X G c_LOWEST⟩
    c_TOO_GREAT := ⟨_, PySem.W.mg_of X G c_TOO_GREAT⟩
    g_Float := PySem.W.mg_of X G g_Float
    l_Float := ⟨pg_Float, hd_Float, po_Float, sa_Float⟩
    y_Float := ⟨yc_Float, y_spec, y_takes, ym_Float⟩
    n_sign := n_sign
    n_top := n_top
    n_power := n_power
    i_Fint := i_Fint
    i_Fbool := i_Fbool
    i_Fstr := i_Fstr
    i_intF := i_intF
    i_boolF := i_boolF
    i_strF := i_strF
    i_nonF := i_nonF
    x_init := ⟨_, _, PySem.W.mg_of X G g_Float, ⟨mk_Float, a1, i1, kc_Float⟩, fun_mk (st := s_Float_init) l1 c1 k1, (fun_mk (st := s_Float_init) l1 c1 k1).binds (fun _ _ _ _ _ _ us hl => match us, hl with | [_, _, _, _], _ => rfl)⟩
    x_is_finite := ⟨_, _, ⟨a2, i2, k2⟩, fun_mk (st := s_Float_is_finite) l2 c2 k2, (fun_mk (st := s_Float_is_finite) l2 c2 k2).binds (fun _ _ _ _ _ _ us hl => match us, hl with | [_], _ => rfl)⟩
    x_ratio := ⟨_, _, ⟨a3, i3, k3⟩, fun_mk (st := s_Float_ratio) l3 c3 k3, (fun_mk (st := s_Float_ratio) l3 c3 k3).binds (fun _ _ _ _ _ _ us hl => match us, hl with | [_], _ => rfl)⟩
    x_eq := ⟨_, _, ⟨a4, i4, k4⟩, fun_mk (st := s_Float_eq) l4 c4 k4, (fun_mk (st := s_Float_eq) l4 c4 k4).binds (fun _ _ _ _ _ _ us hl => match us, hl with | [_, _], _ => rfl)⟩
    x_is_plain := ⟨_, _, PySem.W.mg_of X G a5, fun_mk (st := s_is_plain) l5 c5 k5, (fun_mk (st := s_is_plain) l5 c5 k5).binds (fun _ _ _ _ _ _ us hl => match us, hl with | [_], _ => rfl)⟩
    x_reduced := ⟨_, _, PySem.W.mg_of X G a6, fun_mk (st := s_reduced) l6 c6 k6, (fun_mk (st := s_reduced) l6 c6 k6).binds (fun _ _ _ _ _ _ us hl => match us, hl with | [_, _], _ => rfl)⟩
    x_fits := ⟨_, _, PySem.W.mg_of X G a7, fun_mk (st := s_fits) l7 c7 k7, (fun_mk (st := s_fits) l7 c7 k7).binds (fun _ _ _ _ _ _ us hl => match us, hl with | [_, _], _ => rfl)⟩
    x_sign_of := ⟨_, _, PySem.W.mg_of X G a8, fun_mk (st := s_sign_of) l8 c8 k8, (fun_mk (st := s_sign_of) l8 c8 k8).binds (fun _ _ _ _ _ _ us hl => match us, hl with | [_], _ => rfl)⟩
    x_infinity := ⟨_, _, PySem.W.mg_of X G a9, fun_mk (st := s_infinity) l9 c9 k9, (fun_mk (st := s_infinity) l9 c9 k9).binds (fun _ _ _ _ _ _ us hl => match us, hl with | [_], _ => rfl)⟩
    x_nearest := ⟨_, _, PySem.W.mg_of X G a10, fun_mk (st := s_nearest) l10 c10 k10, (fun_mk (st := s_nearest) l10 c10 k10).binds (fun _ _ _ _ _ _ us hl => match us, hl with | [_, _, _], _ => rfl)⟩
    x_to_float := ⟨_, _, PySem.W.mg_of X G a11, fun_mk (st := s_to_float) l11 c11 k11, (fun_mk (st := s_to_float) l11 c11 k11).binds (fun _ _ _ _ _ _ us hl => match us, hl with | [_], _ => rfl)⟩
    x_well := ⟨_, _, PySem.W.mg_of X G a12, fun_mk (st := s_law_well) l12 c12 k12, (fun_mk (st := s_law_well) l12 c12 k12).binds (fun _ _ _ _ _ _ us hl => match us, hl with | [_], _ => rfl)⟩
    x_draw := ⟨_, _, PySem.W.mg_of X G a13, fun_mk (st := s_law_draw) l13 c13 k13, (fun_mk (st := s_law_draw) l13 c13 k13).binds (fun _ _ _ _ _ _ us hl => match us, hl with | [_, _], _ => rfl)⟩
    x_one := ⟨_, _, PySem.W.mg_of X G a14, fun_mk (st := s_law_one) l14 c14 k14, (fun_mk (st := s_law_one) l14 c14 k14).binds (fun _ _ _ _ _ _ us hl => match us, hl with | [_, _], _ => rfl)⟩
    x_great := ⟨_, _, PySem.W.mg_of X G a15, fun_mk (st := s_law_great) l15 c15 k15, (fun_mk (st := s_law_great) l15 c15 k15).binds (fun _ _ _ _ _ _ us hl => match us, hl with | [_, _], _ => rfl)⟩
    x_finite := ⟨_, _, PySem.W.mg_of X G a16, fun_mk (st := s_law_finite) l16 c16 k16, (fun_mk (st := s_law_finite) l16 c16 k16).binds (fun _ _ _ _ _ _ us hl => match us, hl with | [_], _ => rfl)⟩
    x_float := ⟨_, _, PySem.W.mg_of X G a17, fun_mk (st := s_law_float) l17 c17 k17, (fun_mk (st := s_law_float) l17 c17 k17).binds (fun _ _ _ _ _ _ us hl => match us, hl with | [_], _ => rfl)⟩
    x_nan := ⟨_, _, PySem.W.mg_of X G a18, fun_mk (st := s_nan) l18 c18 k18, (fun_mk (st := s_nan) l18 c18 k18).binds (fun _ _ _ _ _ _ us hl => match us, hl with | [], _ => rfl)⟩
    x_added := ⟨_, _, PySem.W.mg_of X G a19, fun_mk (st := s_added) l19 c19 k19, (fun_mk (st := s_added) l19 c19 k19).binds (fun _ _ _ _ _ _ us hl => match us, hl with | [_, _], _ => rfl)⟩
    x_multiplied := ⟨_, _, PySem.W.mg_of X G a20, fun_mk (st := s_multiplied) l20 c20 k20, (fun_mk (st := s_multiplied) l20 c20 k20).binds (fun _ _ _ _ _ _ us hl => match us, hl with | [_, _], _ => rfl)⟩
    x_divided := ⟨_, _, PySem.W.mg_of X G a21, fun_mk (st := s_divided) l21 c21 k21, (fun_mk (st := s_divided) l21 c21 k21).binds (fun _ _ _ _ _ _ us hl => match us, hl with | [_, _], _ => rfl)⟩
    x_floored := ⟨_, _, PySem.W.mg_of X G a22, fun_mk (st := s_floored) l22 c22 k22, (fun_mk (st := s_floored) l22 c22 k22).binds (fun _ _ _ _ _ _ us hl => match us, hl with | [_], _ => rfl)⟩
    x_remainder := ⟨_, _, PySem.W.mg_of X G a23, fun_mk (st := s_remainder) l23 c23 k23, (fun_mk (st := s_remainder) l23 c23 k23).binds (fun _ _ _ _ _ _ us hl => match us, hl with | [_, _], _ => rfl)⟩
    x_by_floats := ⟨_, _, PySem.W.mg_of X G a24, fun_mk (st := s_by_floats) l24 c24 k24, (fun_mk (st := s_by_floats) l24 c24 k24).binds (fun _ _ _ _ _ _ us hl => match us, hl with | [_, _, _], _ => rfl)⟩
    x_arith := ⟨_, _, PySem.W.mg_of X G a25, fun_mk (st := s_arith) l25 c25 k25, (fun_mk (st := s_arith) l25 c25 k25).binds (fun _ _ _ _ _ _ us hl => match us, hl with | [_, _, _], _ => rfl)⟩
    x_wrapped := ⟨_, _, PySem.W.mg_of X G a26, fun_mk (st := s_wrapped) l26 c26 k26, (fun_mk (st := s_wrapped) l26 c26 k26).binds (fun _ _ _ _ _ _ us hl => match us, hl with | [_], _ => rfl)⟩
    x_lratio := ⟨_, _, PySem.W.mg_of X G a27, fun_mk (st := s_law_ratio) l27 c27 k27, (fun_mk (st := s_law_ratio) l27 c27 k27).binds (fun _ _ _ _ _ _ us hl => match us, hl with | [_], _ => rfl)⟩
    x_is_nearest := ⟨_, _, PySem.W.mg_of X G a28, fun_mk (st := s_law_is_nearest) l28 c28 k28, (fun_mk (st := s_law_is_nearest) l28 c28 k28).binds (fun _ _ _ _ _ _ us hl => match us, hl with | [_, _, _, _], _ => rfl)⟩
    x_scaled := ⟨_, _, PySem.W.mg_of X G a29, fun_mk (st := s_law_scaled) l29 c29 k29, (fun_mk (st := s_law_scaled) l29 c29 k29).binds (fun _ _ _ _ _ _ us hl => match us, hl with | [_, _], _ => rfl)⟩
    x_said := ⟨_, _, PySem.W.mg_of X G a30, fun_mk (st := s_law_said) l30 c30 k30, (fun_mk (st := s_law_said) l30 c30 k30).binds (fun _ _ _ _ _ _ us hl => match us, hl with | [_, _, _], _ => rfl)⟩
    x_lwrapped := ⟨_, _, PySem.W.mg_of X G a31, fun_mk (st := s_law_wrapped) l31 c31 k31, (fun_mk (st := s_law_wrapped) l31 c31 k31).binds (fun _ _ _ _ _ _ us hl => match us, hl with | [_], _ => rfl)⟩
    x_int := ⟨_, _, PySem.W.mg_of X G a32, fun_mk (st := s_law_int) l32 c32 k32, (fun_mk (st := s_law_int) l32 c32 k32).binds (fun _ _ _ _ _ _ us hl => match us, hl with | [_], _ => rfl)⟩
    x_ints_right := ⟨_, _, PySem.W.mg_of X G a33, fun_mk (st := s_law_ints_right) l33 c33 k33, (fun_mk (st := s_law_ints_right) l33 c33 k33).binds (fun _ _ _ _ _ _ us hl => match us, hl with | [_, _], _ => rfl)⟩
    x_floor_right := ⟨_, _, PySem.W.mg_of X G a34, fun_mk (st := s_law_floor_right) l34 c34 k34, (fun_mk (st := s_law_floor_right) l34 c34 k34).binds (fun _ _ _ _ _ _ us hl => match us, hl with | [_, _], _ => rfl)⟩
    x_mod_right := ⟨_, _, PySem.W.mg_of X G a35, fun_mk (st := s_law_mod_right) l35 c35 k35, (fun_mk (st := s_law_mod_right) l35 c35 k35).binds (fun _ _ _ _ _ _ us hl => match us, hl with | [_, _], _ => rfl)⟩
    x_law := ⟨_, _, PySem.W.mg_of X G a36, fun_mk (st := s_law) l36 c36 k36, (fun_mk (st := s_law) l36 c36 k36).binds (fun _ _ _ _ _ _ us hl => match us, hl with | [_], _ => rfl)⟩
    g_Thrown := PySem.W.mg_of X G g_Thrown
    a_Thrown := ⟨th_made, th_over, th_hd, th_sa, th_ex, th_ty, th_kp⟩
    xf_Thrown := ⟨th_ga, th_gg, th_ex, th_hd⟩
    xn_value := xn_value
    xn_level := xn_level
    e_Thrown := exm_own th_ex th_ic th_ty th_sc
    b_AE := PySem.W.mg_none_of X G b_AE
    v_AE := v_AE
    q_Float := ⟨ym_Float, ne_Float⟩
  }
  exact ⟨PySem.W.fnOf "law" "law" (defArgs s_law) (defBody s_law) (defScope s_law) .none kV36 dc36 pm36 an36 cd36 ct36, fun s v => .of_eq rfl, fun base _ _ => ok_all T (thr_kn T ⟨⟨_, _, _, _, _, _, _, _, _, _, rfl, l99, c99, .inr ⟨by simp, TD, _, _, _, rfl, lD, rfl, .cons ⟨_, rfl⟩ .nil⟩, .inl rfl⟩, k99⟩ a99 i99) (fun_mk (st := s_law) l36 c36 k36)⟩
end Nu

open PySem PySem.W PyProof.Rows
set_option Elab.async false
set_option maxRecDepth 100000
set_option maxHeartbeats 0
open_top hd03 for PySem.Challenge.rw_walkmade_k03_whole_quotients_and_what_is
theorem PySem.Challenge.cw_walkmade_k03_whole_quotients_and_what_is_holds : PySem.Challenge.rw_walkmade_k03_whole_quotients_and_what_is.Holds :=
  hd03 (by
  k_fill
  refine L2.walk_ofB (l := PySem.Challenge.rw_walkmade_k03_whole_quotients_and_what_is) (n := 63) (k := 20) (x := "script") (CX := fun _ => L2.CX0) (sp := fun w => Nu.spLaw (hd03.heap_39 w.params)) rfl (by decide) rfl ⟨rfl, by decide, by decide⟩ (fun w h Y => PySem.W.kIn_of Y) ?F
    (fun w H a ns h1 h2 _ h4 => ⟨a, ns, rfl, h4, h1, fun z hz => Int.ofNat_le.2 (h2 z hz), fun _ => rfl⟩) (fun _ _ _ _ _ z => z)
  case F =>
    intro w mg fa h KX G hmg
    refine' Nu.fin_mk KX G hmg ?b_isinstance ?b_int ?b_str ?b_bool ?b_abs ?b_max ?b_min ?b_divmod ?b_len ?b_range ?c_LEAST ?c_MOST ?c_ROOM ?c_LOWEST ?c_TOO_GREAT ?g_Float ?pg_Float ?hd_Float ?po_Float ?sa_Float ?yc_Float ?ym_Float ?n_sign ?n_top ?n_power ?i_Fint ?i_Fbool ?i_Fstr ?i_intF ?i_boolF ?i_strF ?i_nonF ?mk_Float ?kc_Float ?y_spec ?y_takes ?a1 ?l1 ?c1 ?k1 ?i1 ?a2 ?l2 ?c2 ?k2 ?i2 ?a3 ?l3 ?c3 ?k3 ?i3 ?a4 ?l4 ?c4 ?k4 ?i4 ?a5 ?l5 ?c5 ?k5 ?a6 ?l6 ?c6 ?k6 ?a7 ?l7 ?c7 ?k7 ?a8 ?l8 ?c8 ?k8 ?a9 ?l9 ?c9 ?k9 ?a10 ?l10 ?c10 ?k10 ?a11 ?l11 ?c11 ?k11 ?a12 ?l12 ?c12 ?k12 ?a13 ?l13 ?c13 ?k13 ?a14 ?l14 ?c14 ?k14 ?a15 ?l15 ?c15 ?k15 ?a16 ?l16 ?c16 ?k16 ?a17 ?l17 ?c17 ?k17 ?a18 ?l18 ?c18 ?k18 ?a19 ?l19 ?c19 ?k19 ?a20 ?l20 ?c20 ?k20 ?a21 ?l21 ?c21 ?k21 ?a22 ?l22 ?c22 ?k22 ?a23 ?l23 ?c23 ?k23 ?a24 ?l24 ?c24 ?k24 ?a25 ?l25 ?c25 ?k25 ?a26 ?l26 ?c26 ?k26 ?a27 ?l27 ?c27 ?k27 ?a28 ?l28 ?c28 ?k28 ?a29 ?l29 ?c29 ?k29 ?a30 ?l30 ?c30 ?k30 ?a31 ?l31 ?c31 ?k31 ?a32 ?l32 ?c32 ?k32 ?a33 ?l33 ?c33 ?k33 ?a34 ?l34 ?c34 ?k34 ?a35 ?l35 ?c35 ?k35 ?a36 ?l36 ?c36 ?k36 ?g_Thrown ?th_made ?th_over ?th_hd ?th_sa ?th_ex ?th_ty ?th_kp ?th_ga ?th_gg ?xn_value ?xn_level ?th_ic ?th_sc ?b_AE ?v_AE ?a99 ?l99 ?c99 ?k99 ?i99 ?lD ?ne_Float
    (case b_isinstance => k_is)
    (case b_int => k_is)
    (case b_str => k_is)
    (case b_bool => k_is)
    (case b_abs => k_is)
    (case b_max => k_is)
    (case b_min => k_is)
    (case b_divmod => k_is)
    (case b_len => k_is)
    (case b_range => k_is)
    (case c_LEAST => k_is)
    (case c_MOST => k_is)
    (case c_ROOM => k_is)
    (case c_LOWEST => k_is)
    (case c_TOO_GREAT => k_is)
    (case g_Float => k_is)
    (case pg_Float => k_is)
    (case hd_Float => k_is)
    (case po_Float => k_is)
    (case sa_Float => k_is)
    (case yc_Float => k_is)
    (case ym_Float => k_is)
    (case n_sign => k_is)
    (case n_top => k_is)
    (case n_power => k_is)
    (case i_Fint => kit_is)
    (case i_Fbool => kit_is)
    (case i_Fstr => kit_is)
    (case i_intF => kit_is)
    (case i_boolF => kit_is)
    (case i_strF => kit_is)
    (case i_nonF => kit_is)
    (case mk_Float => k_is)
    (case kc_Float => k_is)
    (case y_spec => k_is)
    (case y_takes => k_is)
    (case a1 => k_is)
    (case l1 => k_is)
    (case c1 => k_is)
    (case k1 => k_is)
    (case i1 => k_is)
    (case a2 => k_is)
    (case l2 => k_is)
    (case c2 => k_is)
    (case k2 => k_is)
    (case i2 => k_is)
    (case a3 => k_is)
    (case l3 => k_is)
    (case c3 => k_is)
    (case k3 => k_is)
    (case i3 => k_is)
    (case a4 => k_is)
    (case l4 => k_is)
    (case c4 => k_is)
    (case k4 => k_is)
    (case i4 => k_is)
    (case a5 => k_is)
    (case l5 => k_is)
    (case c5 => k_is)
    (case k5 => k_is)
    (case a6 => k_is)
    (case l6 => k_is)
    (case c6 => k_is)
    (case k6 => k_is)
    (case a7 => k_is)
    (case l7 => k_is)
    (case c7 => k_is)
    (case k7 => k_is)
    (case a8 => k_is)
    (case l8 => k_is)
    (case c8 => k_is)
    (case k8 => k_is)
    (case a9 => k_is)
    (case l9 => k_is)
    (case c9 => k_is)
    (case k9 => k_is)
    (case a10 => k_is)
    (case l10 => k_is)
    (case c10 => k_is)
    (case k10 => k_is)
    (case a11 => k_is)
    (case l11 => k_is)
    (case c11 => k_is)
    (case k11 => k_is)
    (case a12 => k_is)
    (case l12 => k_is)
    (case c12 => k_is)
    (case k12 => k_is)
    (case a13 => k_is)
    (case l13 => k_is)
    (case c13 => k_is)
    (case k13 => k_is)
    (case a14 => k_is)
    (case l14 => k_is)
    (case c14 => k_is)
    (case k14 => k_is)
    (case a15 => k_is)
    (case l15 => k_is)
    (case c15 => k_is)
    (case k15 => k_is)
    (case a16 => k_is)
    (case l16 => k_is)
    (case c16 => k_is)
    (case k16 => k_is)
    (case a17 => k_is)
    (case l17 => k_is)
    (case c17 => k_is)
    (case k17 => k_is)
    (case a18 => k_is)
    (case l18 => k_is)
    (case c18 => k_is)
    (case k18 => k_is)
    (case a19 => k_is)
    (case l19 => k_is)
    (case c19 => k_is)
    (case k19 => k_is)
    (case a20 => k_is)
    (case l20 => k_is)
    (case c20 => k_is)
    (case k20 => k_is)
    (case a21 => k_is)
    (case l21 => k_is)
    (case c21 => k_is)
    (case k21 => k_is)
    (case a22 => k_is)
    (case l22 => k_is)
    (case c22 => k_is)
    (case k22 => k_is)
    (case a23 => k_is)
    (case l23 => k_is)
    (case c23 => k_is)
    (case k23 => k_is)
    (case a24 => k_is)
    (case l24 => k_is)
    (case c24 => k_is)
    (case k24 => k_is)
    (case a25 => k_is)
    (case l25 => k_is)
    (case c25 => k_is)
    (case k25 => k_is)
    (case a26 => k_is)
    (case l26 => k_is)
    (case c26 => k_is)
    (case k26 => k_is)
    (case a27 => k_is)
    (case l27 => k_is)
    (case c27 => k_is)
    (case k27 => k_is)
    (case a28 => k_is)
    (case l28 => k_is)
    (case c28 => k_is)
    (case k28 => k_is)
    (case a29 => k_is)
    (case l29 => k_is)
    (case c29 => k_is)
    (case k29 => k_is)
    (case a30 => k_is)
    (case l30 => k_is)
    (case c30 => k_is)
    (case k30 => k_is)
    (case a31 => k_is)
    (case l31 => k_is)
    (case c31 => k_is)
    (case k31 => k_is)
    (case a32 => k_is)
    (case l32 => k_is)
    (case c32 => k_is)
    (case k32 => k_is)
    (case a33 => k_is)
    (case l33 => k_is)
    (case c33 => k_is)
    (case k33 => k_is)
    (case a34 => k_is)
    (case l34 => k_is)
    (case c34 => k_is)
    (case k34 => k_is)
    (case a35 => k_is)
    (case l35 => k_is)
    (case c35 => k_is)
    (case k35 => k_is)
    (case a36 => k_is)
    (case l36 => k_is)
    (case c36 => k_is)
    (case k36 => k_is)
    (case g_Thrown => k_is)
    (case th_made => kx_is)
    (case th_over => kx_is)
    (case th_hd => k_is)
    (case th_sa => k_is)
    (case th_ex => k_is)
    (case th_ty => k_is)
    (case th_kp => k_is)
    (case th_ga => k_is)
    (case th_gg => k_is)
    (case xn_value => k_is)
    (case xn_level => k_is)
    (case th_ic => k_is)
    (case th_sc => first | rfl | k_is)
    (case b_AE => k_is)
    (case v_AE => k_is)
    (case a99 => k_is)
    (case l99 => k_is)
    (case c99 => k_is)
    (case k99 => k_is)
    (case i99 => k_is)
    (case lD => k_is)
    (case ne_Float => k_is)
  )
