import PyProof.Rows.All
import Wide.All
import OpenK.AllK
import Wide.FinOn
import HandS.ForMost
import HandS.WideBits
import HandS.IsInst
import HandS.EndBits
import HandS.Codes
import HandS.Defaults
import KE.IntBitsLaws
import HandS.More
import PyProof.InstEq
import HandS.Style
import HandS.OwnEq
import HandS.ExcInit
import HandS.ExcField
import HandS.TryOnly
import KE.KExcInit
import PyProof.ExcBaseAll.ArithmeticError
import HandS.WordsExc
import PyProof.EqKinds
import PyProof.NeKinds
import HandS.ExcIs
import PyProof.Seq
import PySem.Challenge.RW_walkmade_k01_floats_by_their_parts
import KE.RegKIsAll
import KE.KExcLine
set_option Elab.async false
set_option linter.all false
set_option maxRecDepth 100000
set_option maxHeartbeats 4000000
/-! Readings by steps that look at the head of the goal alone. -/
namespace Rd
open PySem PySem.Spec PyProof.Rows L2

/-! ### defs of the text, packed -/
/-- the def x of the text st stands in the module -/
structure Tx (K : PySem.W.Frag) (mg : Str → Option Value) (x n : Str) (st : Stmt) (ps : List Str) : Prop where
  ex : ∃ f fd, mg x = some (.ref f) ∧ Fun K n n st f fd ∧ Binds K fd ps []
/-- the def x keeps its promise -/
structure Kn (P : Program) (w : World) (K : PySem.W.Frag) (mg : Str → Option Value) (base : Heap) (CX : CXT) (k : Nat) (x : Str) (ps : List Str) (sp : Sp) : Prop where
  ex : ∃ f fd, mg x = some (.ref f) ∧ PySem.W.keepIn K (.ref f) = true ∧ Binds K fd ps [] ∧ FnOk P w K mg base CX k f fd ps sp
/-- a method m of the class at C -/
structure KnM (P : Program) (w : World) (K : PySem.W.Frag) (mg : Str → Option Value) (base : Heap) (CX : CXT) (k : Nat) (C : Addr) (m : Str) (ps : List Str) (sp : Sp) : Prop where
  ex : ∃ f fd, Meth K C m f ∧ Binds K fd ps [] ∧ FnOk P w K mg base CX k f fd ps sp
/-- a class whose __init__ keeps its promise -/
structure KnC (P : Program) (w : World) (K : PySem.W.Frag) (mg : Str → Option Value) (base : Heap) (CX : CXT) (k : Nat) (x : Str) (C : Addr) (ps : List Str) (sp : Sp) : Prop where
  ex : ∃ f fd, mg x = some (.ref C) ∧ Mk K C f ∧ Binds K fd ps [] ∧ FnOk P w K mg base CX k f fd ps sp
/-- a method of the text -/
structure TxM (K : PySem.W.Frag) (C : Addr) (m qual : Str) (st : Stmt) (ps : List Str) : Prop where
  ex : ∃ f fd, Meth K C m f ∧ Fun K m qual st f fd ∧ Binds K fd ps []
structure TxC (K : PySem.W.Frag) (mg : Str → Option Value) (x : Str) (C : Addr) (qual : Str) (st : Stmt) (ps : List Str) : Prop where
  ex : ∃ f fd, mg x = some (.ref C) ∧ Mk K C f ∧ Fun K "__init__" qual st f fd ∧ Binds K fd ps []

section
variable {P : Program} {w : World} {K : PySem.W.Frag} {mg : Str → Option Value} {base : Heap} {CX : CXT} {k : Nat} {x : Str} {ps : List Str} {sp : Sp}
theorem Kn.mono (h : Kn P w K mg base CX k x ps sp) {j : Nat} (hj : k ≤ j) : Kn P w K mg base CX j x ps sp :=
  let ⟨f, fd, a, b, c, d⟩ := h.ex
  ⟨f, fd, a, b, c, d.mono hj⟩
theorem Tx.kn {n : Str} {st : Stmt} (t : Tx K mg x n st ps) (h : ∀ f fd, Fun K n n st f fd → FnOk P w K mg base CX k f fd ps sp) : Kn P w K mg base CX k x ps sp :=
  let ⟨f, fd, a, b, c⟩ := t.ex
  ⟨f, fd, a, b.kp, c, h f fd b⟩
theorem TxM.kn {C : Addr} {m qual : Str} {st : Stmt} (t : TxM K C m qual st ps) (h : ∀ f fd, Fun K m qual st f fd → FnOk P w K mg base CX k f fd ps sp) : KnM P w K mg base CX k C m ps sp :=
  let ⟨f, fd, a, b, c⟩ := t.ex
  ⟨f, fd, a, c, h f fd b⟩
theorem TxC.kn {C : Addr} {qual : Str} {st : Stmt} (t : TxC K mg x C qual st ps) (h : ∀ f fd, Fun K "__init__" qual st f fd → FnOk P w K mg base CX k f fd ps sp) : KnC P w K mg base CX k x C ps sp :=
  let ⟨f, fd, a, b, c, d⟩ := t.ex
  ⟨f, fd, a, b, d, h f fd c⟩
end
section
variable {X : Cx} {k j : Nat} {x : Str} {ps : List Str} {sp : Sp} {p pos apos : Pos} {e o : Expr} {es : List Expr} {t : TA} {ta : TE} {C : Addr} {m : Str}
/-- f(e, ..) -/
theorem pk (h : Kn X.prog X.w X.K X.mg X.base CX0 k x ps sp) (hr : Room j X.A) (ha : PA X (e :: es) t) (hj : k ≤ j := by decide) (hg : Gl X x := by rfl) (hdb : (x == ("__debug__" : Str)) = false := by decide)
    (he : starEach (e :: es) X.env = (false, eval e X.env) :: starEach es X.env := by rfl) (hpl : (backTo pos (starEach es X.env)).any (·.1) = false := by rfl) : PE X (.Call (.Name x p) (e :: es) [] pos) (tCall sp [] E0 t) := by
  obtain ⟨f, fd, a, b, c, d⟩ := h.ex
  exact pe_call d (hr.mono hj) hg a b c .nil pass0 ha hdb he hpl
theorem pk0 (h : Kn X.prog X.w X.K X.mg X.base CX0 k x ps sp) (hr : Room j X.A) (hj : k ≤ j := by decide) (hg : Gl X x := by rfl) (hdb : (x == ("__debug__" : Str)) = false := by decide) : PE X (.Call (.Name x p) [] [] pos) (tCall sp [] E0 tNil) := by
  obtain ⟨f, fd, a, b, c, d⟩ := h.ex
  exact pe_call0 d (hr.mono hj) hg a b c .nil pass0 hdb
/-- C(e, ..) -/
theorem pkC (h : KnC X.prog X.w X.K X.mg X.base CX0 k x C ps sp) (hr : Room j X.A) (ha : PA X (e :: es) t) (hj : k + 1 ≤ j := by decide) (hg : Gl X x := by rfl) (hdb : (x == ("__debug__" : Str)) = false := by decide)
    (he : starEach (e :: es) X.env = (false, eval e X.env) :: starEach es X.env := by rfl) (hpl : (backTo pos (starEach es X.env)).any (·.1) = false := by rfl) : PE X (.Call (.Name x p) (e :: es) [] pos) (tMake C sp [] E0 t) := by
  obtain ⟨f, fd, a, b, c, d⟩ := h.ex
  exact pe_make b d (hr.mono hj) hg a c .nil pass0 ha hdb he hpl
/-- o.m() -/
theorem pkM0 (h : KnM X.prog X.w X.K X.mg X.base CX0 k C m ps sp) (cl : Cls X.K C) (hr : Room j X.A) (ho : PE X o ta) {pl : Sem Bool}
    (ht : eval (.Call (.Attribute o m apos) [] [] pos) X.env = (do
      let ov ← eval o X.env
      standAt apos.atName
      let (f, first) ← holding [ov] (getMethod ov m pl)
      callWith pos f first (backTo pos (starEach [] X.env)) (backToKw pos (keywordEach [] X.env)))) (hj : k ≤ j := by decide) :
    PE X (.Call (.Attribute o m apos) [] [] pos) (tMeth C m sp [] E0 ta tNil) := by
  obtain ⟨f, fd, a, b, d⟩ := h.ex
  exact pe_meth0 ho cl a d (hr.mono hj) b .nil pass0 ht
/-- a class or a constant of the module, as a value -/
theorem pg (x : Str) {v : V} {u : Value} (hm : X.mg x = some u) (r : RelV v u) (hg : Gl X x := by rfl) (hd : (x == ("__debug__" : Str)) = false := by decide) : PE X (.Name x pos) (tC v) := pe_glob hg hm r hd
end
/-- v is .int, .str, .non, .bl -/
theorem rty (n : String) : RelV (.ty n) (.type n) := rfl
theorem rref (a : Addr) : RelV (.ref a) (.ref a) := rfl

/-! ### what is wanted, by the head of the goal -/
section
variable {σ : L2.St} {H : Hp} {Q : VK} {ta tb te : TE} {x y v : V} {r : R2} {K : PySem.W.Frag}
theorem w_var {i : Nat} (h : σ[i]? = some (some v)) (q : Q v H) : tVar i σ H Q := ⟨v, h, q⟩
theorem w_c (q : Q v H) : tC v σ H Q := q
theorem w_op (h : ta σ H fun x H1 => tb σ H1 fun y H2 => r x y H2 Q) : tOp r ta tb σ H Q := h
theorem w_un {r : V → Hp → VK → Prop} (h : ta σ H fun x H1 => r x H1 Q) : tUn r ta σ H Q := h
theorem w_I0 {g : Int → Int → V} {i j : Int} (q : Q (g i j) H) : rI0 g (.int i) (.int j) H Q := ⟨i, j, rfl, rfl, q⟩
theorem w_I {C : Int → Int → Prop} {g : Int → Int → V} {i j : Int} (c : C i j) (q : Q (g i j) H) : rI C g (.int i) (.int j) H Q := ⟨i, j, rfl, rfl, c, q⟩
theorem w_U {g : Int → V} {i : Int} (q : Q (g i) H) : rU g (.int i) H Q := ⟨i, rfl, q⟩
theorem w_eq (s : scal x y = true) (q : Q (.bl (decide (x = y))) H) : rEq x y H Q := ⟨s, q⟩
theorem w_ne (s : scal x y = true) (q : Q (.bl (!decide (x = y))) H) : rNe x y H Q := ⟨s, q⟩
theorem w_bits (h : te σ H fun x H1 => ∃ i, x = .int i ∧ Q (.int (Builtin.Int.intBits i : Nat)) H1) : tBits te σ H Q := h
theorem w_bitsI {R : Int → Prop} {i : Int} (q : R i) : ∃ i', V.int i = .int i' ∧ R i' := ⟨i, rfl, q⟩
def TupK (xs : List V) (H : Hp) (Q : VK) : Prop := xs.length ≤ sizeLine ∧ ∀ p, H p = none → Q (.ref p) (upd H p (.tup xs))
def LstK (xs : List V) (H : Hp) (Q : VK) : Prop := xs.length ≤ sizeLine ∧ ∀ p, H p = none → Q (.ref p) (upd H p (.lst xs))
theorem w_tup {t : TA} (h : t σ H fun xs H1 => TupK xs H1 Q) : tTup t σ H Q := h
theorem w_lst {t : TA} (h : t σ H fun xs H1 => LstK xs H1 Q) : tLst t σ H Q := h
theorem w_nil {Q : List V → Hp → Prop} (q : Q [] H) : tNil σ H Q := q
theorem w_cons {ta : TE} {tr : TA} {Q : List V → Hp → Prop} (h : ta σ H fun x H1 => tr σ H1 fun xs H2 => Q (x :: xs) H2) : tCons ta tr σ H Q := h
theorem w_fld {f : Str} (h : ta σ H fun x H1 => ∃ a C dx fs v, x = .ref a ∧ H1 a = some (.ins C dx fs) ∧ Cls K C ∧ NoAttr K C f ∧ fs.lookup f = some v ∧ Q v H1) : tFld K ta f σ H Q := h
theorem w_fldI {R : V → Prop} {f : Str} {a C dx : Addr} {fs : List (Str × V)} (ho : H a = some (.ins C dx fs)) (c : Cls K C) (n : NoAttr K C f) (l : fs.lookup f = some v) (q : R v) :
    ∃ a' C dx fs v, V.ref a = .ref a' ∧ H a' = some (.ins C dx fs) ∧ Cls K C ∧ NoAttr K C f ∧ fs.lookup f = some v ∧ R v := ⟨a, C, dx, fs, v, rfl, ho, c, n, l, q⟩
theorem w_sfI {R : Addr → Addr → List (Str × V) → Addr → Prop} {f : Str} {a C dx : Addr} {fs : List (Str × V)} (ho : H a = some (.ins C dx fs)) (c : Cls K C) (n : NoAttr K C f) (l : fs.length < 1000) (q : R a dx fs C) :
    ∃ a' C dx fs, V.ref a = .ref a' ∧ H a' = some (.ins C dx fs) ∧ Cls K C ∧ NoAttr K C f ∧ fs.length < 1000 ∧ R a' dx fs C := ⟨a, C, dx, fs, rfl, ho, c, n, l, q⟩
theorem w_call {sp : Sp} {dvs : List V} {E : XK} {t : TA} (h : t σ H fun vs H1 => sp (vs ++ dvs) H1 Q E) : tCall sp dvs E t σ H Q := h
def MakeK (C : Addr) (sp : Sp) (vs : List V) (H1 : Hp) (Q : VK) (E : XK) : Prop := ∀ x dx, H1 x = none → H1 dx = none → dx ≠ x → sp (.ref x :: (vs ++ [])) (upd (upd H1 dx (.own x)) x (.ins C dx [])) (fun v H2 => v = .non ∧ Q (.ref x) H2) E
theorem w_make {C : Addr} {sp : Sp} {E : XK} {t : TA} (h : t σ H fun vs H1 => MakeK C sp vs H1 Q E) : tMake C sp [] E t σ H Q := h
theorem w_cb {r : List V → Hp → VK → Prop} {t : TA} (h : t σ H fun vs H1 => r vs H1 Q) : tCB r t σ H Q := h
theorem w_bl {R : Bool → Prop} {k : Bool} (q : R k) : ∃ k', V.bl k = .bl k' ∧ R k' := ⟨k, rfl, q⟩
theorem w_test {Q : Bool → Hp → Prop} (h : te σ H fun x H' => ∃ k, x = .bl k ∧ Q k H') : tTest te σ H Q := h
theorem w_B {Q : Bool → Hp → Prop} (h : te σ H fun x H' => ∃ k, x = .bl k ∧ Q k H') : tB te σ H Q := h
theorem w_andV (h : ta σ H fun x H1 => ∃ c, x = .bl c ∧ if c = true then tb σ H1 Q else Q (.bl false) H1) : tAndV ta tb σ H Q := h
theorem w_orV (h : ta σ H fun x H1 => ∃ c, x = .bl c ∧ if c = true then Q (.bl true) H1 else tb σ H1 Q) : tOrV ta tb σ H Q := h
theorem w_notV (h : ta σ H fun x H1 => ∃ c, x = .bl c ∧ Q (.bl (!c)) H1) : tNotV ta σ H Q := h
theorem w_and {t u : TT} {Q : Bool → Hp → Prop} (h : t σ H fun c H1 => if c = true then u σ H1 Q else Q false H1) : tAnd t u σ H Q := h
theorem w_or {t u : TT} {Q : Bool → Hp → Prop} (h : t σ H fun c H1 => if c = true then Q true H1 else u σ H1 Q) : tOr t u σ H Q := h
theorem w_not {t : TT} {Q : Bool → Hp → Prop} (h : t σ H fun c H1 => Q (!c) H1) : tNot t σ H Q := h
theorem w_if {t : TT} (h : t σ H fun c H1 => if c = true then ta σ H1 Q else tb σ H1 Q) : tIf t ta tb σ H Q := h
theorem w_isi {x c : V} {t u : Value} {b : Bool} (k : ClsV c u) (ty : TyX K H x t) (e : PySem.W.kitOne K t u = some b) (q : Q (.bl b) H) : rIsi K [x, c] H Q := ⟨x, c, t, u, b, rfl, k, ty, e, q⟩
/-! statements -/
variable {D : Ends} {t u : TS} {n bk ct : L2.St → Hp → Prop} {rt : VK}
theorem w_nx (q : n σ H) : (Ends.mk n rt bk ct).nx σ H := q
theorem w_rt (q : rt v H) : (Ends.mk n rt bk ct).rt v H := q
theorem w_bk (q : bk σ H) : (Ends.mk n rt bk ct).bk σ H := q
theorem w_ct (q : ct σ H) : (Ends.mk n rt bk ct).ct σ H := q
theorem w_seq (h : t { D with nx := u D } σ H) : tSeq t u D σ H := h
theorem w_cut {Mid : L2.St → Hp → Prop} (h1 : t { D with nx := Mid } σ H) (h2 : ∀ σ' H', Mid σ' H' → u D σ' H') : C8.tCut t u D σ H := ⟨Mid, h1, h2⟩
theorem w_next (h : D.nx σ H) : tNext D σ H := h
theorem w_brk (h : D.bk σ H) : tBreak D σ H := h
theorem w_cont (h : D.ct σ H) : tCont D σ H := h
theorem w_ret (h : te σ H D.rt) : tRet te D σ H := h
theorem w_ifS {c : TT} (h : c σ H fun b H1 => if b = true then t D σ H1 else u D σ H1) : tIfS c t u D σ H := h
theorem w_asg {g : TG} (h : te σ H fun x H1 => g x σ H1 D.nx) : tAsg te g D σ H := h
theorem w_name {i : Nat} {Q : L2.St → Hp → Prop} (h : Q (σ.set i (some v)) H) : gName i v σ H Q := h
theorem w_par {i j : Nat} {ta : TA} (h : ta σ H fun vs H1 => ∃ v w, vs = [v, w] ∧ D.nx ((σ.set i (some v)).set j (some w)) H1) : tPar i j ta D σ H := h
theorem w_parI {R : V → V → Prop} {v w : V} (h : R v w) : ∃ v' w', [v, w] = [v', w'] ∧ R v' w' := ⟨v, w, rfl, h⟩
theorem w_ii {R : Int → Int → Prop} {a b : Int} (h : R a b) : ∃ i j, [V.int a, V.int b] = [V.int i, V.int j] ∧ R i j := ⟨a, b, rfl, h⟩
theorem w_i1 {R : Int → Prop} {a : Int} (h : R a) : ∃ i, [V.int a] = [V.int i] ∧ R i := ⟨a, rfl, h⟩
theorem w_drop (h : te σ H fun _ H1 => D.nx σ H1) : tDrop te D σ H := h
theorem w_sFld {tv : TE} {f : Str} (h : tv σ H fun y H1 => ta σ H1 fun x H2 => ∃ a C dx fs, x = .ref a ∧ H2 a = some (.ins C dx fs) ∧ Cls K C ∧ NoAttr K C f ∧ fs.length < 1000 ∧ D.nx σ (upd H2 a (.ins C dx (putF f y fs)))) : sFld K ta tv f D σ H := h
theorem iT {A B : Prop} (h : A) : if true = true then A else B := by rw [if_pos rfl]; exact h
theorem iF {A B : Prop} (h : B) : if false = true then A else B := by rw [if_neg Bool.false_ne_true]; exact h
theorem iD {c : Prop} [Decidable c] {A B : Prop} (h1 : c → A) (h2 : ¬ c → B) : if decide c = true then A else B := by
  by_cases h : c
  · rw [decide_eq_true h]; exact iT (h1 h)
  · rw [decide_eq_false h]; exact iF (h2 h)
theorem iN {c : Prop} [Decidable c] {A B : Prop} (h1 : ¬ c → A) (h2 : c → B) : if (!decide c) = true then A else B := by
  by_cases h : c
  · rw [decide_eq_true h]; exact iF (h2 h)
  · rw [decide_eq_false h]; exact iT (h1 h)
theorem iB {b : Bool} {A B : Prop} (h1 : b = true → A) (h2 : b = false → B) : if b = true then A else B := by
  cases b with
  | true => exact iT (h1 rfl)
  | false => exact iF (h2 rfl)
end
end Rd
open Rd L2 in
section
local macro_rules | `(tactic| walk_at "rd") => `(tactic| first
  | with_reducible refine w_var rfl ?_
  | with_reducible refine w_c ?_
  | with_reducible refine w_op ?_)
end

set_option Elab.async false
set_option linter.all false
set_option maxRecDepth 100000
set_option maxHeartbeats 4000000
/-! The numbers of the program as plain functions. -/
namespace Nu
open PySem L2
abbrev bits (n : Int) : Int := (Builtin.Int.intBits n : Nat)
theorem bits_nn (n : Int) : 0 ≤ bits n := Int.natCast_nonneg _
theorem bits_le {n : Int} {k : Nat} : bits n ≤ k ↔ n.natAbs < 2 ^ k := by
  unfold bits
  rw [Int.ofNat_le]
  exact PySem.intBits_le_iff
theorem bits_zero : bits 0 = 0 := rfl
theorem pow_pos2 (k : Nat) : (0 : Int) < 2 ^ k := Int.pow_pos (by decide)
theorem pow_mono {a b : Nat} (h : a ≤ b) : (2 : Int) ^ a ≤ 2 ^ b := by
  have e : b = a + (b - a) := by omega
  rw [e, Int.pow_add]
  have h1 := pow_pos2 a
  have h2 := pow_pos2 (b - a)
  have := Int.mul_le_mul_of_nonneg_left (show (1 : Int) ≤ 2 ^ (b - a) by omega) (Int.le_of_lt h1)
  omega
theorem pow_cast (k : Nat) : ((2 ^ k : Nat) : Int) = 2 ^ k := by simp
theorem bits_lt_pow {n : Int} (h : 0 ≤ n) {k : Nat} : bits n ≤ k ↔ n < 2 ^ k := by
  rw [bits_le]
  have e := pow_cast k
  omega
/-- 2 ^ (bits n - 1) ≤ n < 2 ^ bits n -/
theorem lt_pow_bits {n : Int} (h : 0 ≤ n) : n < 2 ^ (Builtin.Int.intBits n) := (bits_lt_pow h).1 (Int.le_refl _)
theorem pow_bits_le {n : Int} (h : 0 < n) : (2 : Int) ^ (Builtin.Int.intBits n - 1) ≤ n := by
  have hb : Builtin.Int.intBits n ≠ 0 := by
    intro e
    have := lt_pow_bits (n := n) (by omega)
    rw [e] at this
    simp at this
    omega
  have h2 : ¬ bits n ≤ ((Builtin.Int.intBits n - 1 : Nat) : Int) := by
    unfold bits
    omega
  rw [bits_lt_pow (by omega)] at h2
  omega
theorem bits_pos {n : Int} (h : 0 < n) : 0 < Builtin.Int.intBits n := by
  have := lt_pow_bits (n := n) (by omega)
  rcases Nat.eq_zero_or_pos (Builtin.Int.intBits n) with e | e
  · rw [e] at this; simp at this; omega
  · exact e
/-- bits by its bounds -/
theorem bits_eq {n : Int} {k : Nat} (h1 : (2 : Int) ^ k ≤ n) (h2 : n < 2 ^ (k + 1)) : bits n = k + 1 := by
  have p := pow_pos2 k
  have a : bits n ≤ ((k + 1 : Nat) : Int) := (bits_lt_pow (by omega)).2 h2
  have b : ¬ bits n ≤ ((k : Nat) : Int) := by rw [bits_lt_pow (by omega)]; omega
  omega
theorem bits_shift {n : Int} (h : 0 < n) (k : Nat) : bits (n * 2 ^ k) = bits n + k := by
  have hp := bits_pos h
  have h1 := pow_bits_le h
  have h2 := lt_pow_bits (n := n) (by omega)
  have pk := pow_pos2 k
  have e : Builtin.Int.intBits n - 1 + 1 = Builtin.Int.intBits n := by omega
  have a1 : (2 : Int) ^ (Builtin.Int.intBits n - 1 + k) ≤ n * 2 ^ k := by
    rw [Int.pow_add]
    exact Int.mul_le_mul_of_nonneg_right h1 (by omega)
  have a2 : n * 2 ^ k < 2 ^ (Builtin.Int.intBits n - 1 + k + 1) := by
    rw [show Builtin.Int.intBits n - 1 + k + 1 = Builtin.Int.intBits n + k by omega, Int.pow_add]
    exact Int.mul_lt_mul_of_pos_right h2 pk
  rw [bits_eq a1 a2]
  unfold bits
  omega
theorem bits_mono {a b : Int} (h0 : 0 ≤ a) (h : a ≤ b) : bits a ≤ bits b := by
  have := lt_pow_bits (n := b) (by omega)
  exact (bits_lt_pow h0).2 (by omega)

/-! ### the lowest bit -/
theorem nat_low (k j : Nat) : (2 ^ k * (2 * j + 1)) &&& (2 ^ k * (2 * j + 1) - 1) = 2 ^ (k + 1) * j := by
  have hp : 0 < 2 ^ k := Nat.two_pow_pos k
  have e1 : 2 ^ k * (2 * j + 1) = 2 ^ (k + 1) * j + 2 ^ k := by
    rw [Nat.pow_succ, Nat.mul_add, Nat.mul_one, Nat.mul_assoc]
  have e2 : 2 ^ k * (2 * j + 1) - 1 = 2 ^ (k + 1) * j + (2 ^ k - 1) := by rw [e1]; omega
  have l1 : 2 ^ k < 2 ^ (k + 1) := by rw [Nat.pow_succ]; omega
  have l2 : 2 ^ k - 1 < 2 ^ (k + 1) := by omega
  rw [e2]
  conv => lhs; lhs; rw [e1]
  apply Nat.eq_of_testBit_eq
  intro i
  rw [Nat.testBit_and, Nat.testBit_two_pow_mul_add _ l1, Nat.testBit_two_pow_mul_add _ l2]
  have e3 : 2 ^ (k + 1) * j = 2 ^ (k + 1) * j + 0 := rfl
  rw [e3, Nat.testBit_two_pow_mul_add _ (Nat.two_pow_pos _)]
  by_cases hi : i < k + 1
  · rw [if_pos hi, if_pos hi, if_pos hi, Nat.testBit_two_pow, Nat.testBit_two_pow_sub_one, Nat.zero_testBit]
    by_cases hk : k = i
    · subst hk; simp
    · simp [hk]
  · rw [if_neg hi, if_neg hi, if_neg hi, Bool.and_self]
theorem nat_odd : ∀ n : Nat, 0 < n → ∃ k j : Nat, n = 2 ^ k * (2 * j + 1) := by
  intro n
  induction n using Nat.strongRecOn with
  | ind n ih =>
    intro h
    by_cases c : n % 2 = 1
    · exact ⟨0, n / 2, by simp; omega⟩
    · obtain ⟨k, j, e⟩ := ih (n / 2) (by omega) (by omega)
      refine ⟨k + 1, j, ?_⟩
      have e2 : n = 2 * (n / 2) := by omega
      rw [e2, e, Nat.pow_succ]
      rw [Nat.mul_comm (2 ^ k) 2, Nat.mul_assoc]
/-- what (top & -top).bit_length() - 1 is -/
def less (t : Int) : Int := bits (Builtin.bitAnd t (0 - t)) - 1
theorem less_spec {t : Int} (h : 0 < t) : ∃ (k : Nat) (m : Int), 0 ≤ m ∧ t = 2 ^ k * (2 * m + 1) ∧ less t = k := by
  obtain ⟨n, rfl⟩ := Int.eq_ofNat_of_zero_le (Int.le_of_lt h)
  obtain ⟨k, j, e⟩ := nat_odd n (by omega)
  have hp : 0 < 2 ^ k := Nat.two_pow_pos k
  refine ⟨k, j, Int.natCast_nonneg _, ?_, ?_⟩
  · rw [e]
    simp
  · have a : decide (0 ≤ (n : Int)) = true := decide_eq_true (Int.natCast_nonneg _)
    have b : decide (0 ≤ (0 - (n : Int))) = false := decide_eq_false (by omega)
    have c : Builtin.bitNot (0 - (n : Int)) = ((n - 1 : Nat) : Int) := by
      show -(0 - (n : Int)) - 1 = _
      omega
    have d : Builtin.bitAnd (n : Int) (0 - (n : Int)) = 2 ^ k := by
      unfold Builtin.bitAnd
      rw [a, b]
      show (n : Int) - ((((n : Int).toNat &&& (Builtin.bitNot (0 - (n : Int))).toNat : Nat)) : Int) = 2 ^ k
      rw [c, Int.toNat_natCast, Int.toNat_natCast, e, nat_low]
      have e1 : 2 ^ k * (2 * j + 1) = 2 ^ (k + 1) * j + 2 ^ k := by
        rw [Nat.pow_succ, Nat.mul_add, Nat.mul_one, Nat.mul_assoc]
      rw [e1, ← pow_cast k]
      omega
    unfold less
    rw [d, bits_eq (k := k) (Int.le_refl _) (by rw [Int.pow_succ]; have := pow_pos2 k; omega)]
    omega
/-- top and power with an odd top -/
def red (t p : Int) : Int × Int := if t = 0 then (0, 0) else (t / 2 ^ (less t).toNat, p + less t)
theorem red_zero (p : Int) : red 0 p = (0, 0) := if_pos rfl
theorem red_spec {t : Int} (h : 0 < t) (p : Int) : ∃ (k : Nat) (m : Int), 0 ≤ m ∧ t = 2 ^ k * (2 * m + 1) ∧ red t p = (2 * m + 1, p + k) := by
  obtain ⟨k, m, hm, e, l⟩ := less_spec h
  refine ⟨k, m, hm, e, ?_⟩
  unfold red
  rw [if_neg (by omega), l, Int.toNat_natCast]
  have : t / 2 ^ k = 2 * m + 1 := by
    rw [e]
    exact Int.mul_ediv_cancel_left _ (by have := pow_pos2 k; omega)
  rw [this]
def fitsB (t p : Int) : Bool := (decide (t < 9007199254740992) && (decide (-1074 ≤ p) && decide (bits t + p ≤ 1024))) || decide (t = 0)
theorem pow53 : (9007199254740992 : Int) = 2 ^ 53 := by decide
/-- what nearest hands to Float fits -/
theorem red_fits {t p : Int} (h0 : 0 ≤ t) (h1 : t ≤ 9007199254740992) (h2 : -1074 ≤ p) (h3 : bits t + p ≤ 1024) : fitsB (red t p).1 (red t p).2 = true := by
  by_cases z : t = 0
  · subst z; rw [red_zero]; decide
  · obtain ⟨k, m, hm, e, r⟩ := red_spec (t := t) (by omega) p
    rw [r]
    have pk := pow_pos2 k
    have hlt : 2 * m + 1 < 9007199254740992 := by
      by_cases k0 : k = 0
      · subst k0
        simp at e
        omega
      · have p2 : (2 : Int) ≤ 2 ^ k := by
          obtain ⟨j, rfl⟩ : ∃ j, k = j + 1 := ⟨k - 1, by omega⟩
          rw [Int.pow_succ]
          have := pow_pos2 j
          omega
        have : 2 * (2 * m + 1) ≤ 2 ^ k * (2 * m + 1) := Int.mul_le_mul_of_nonneg_right p2 (by omega)
        omega
    have hb : bits t = bits (2 * m + 1) + k := by
      rw [e, Int.mul_comm]
      exact bits_shift (by omega) k
    unfold fitsB
    rw [decide_eq_true hlt, decide_eq_true (show -1074 ≤ p + (k : Int) by omega), decide_eq_true (show bits (2 * m + 1) + (p + (k : Int)) ≤ 1024 by omega)]
    rfl
end Nu

set_option Elab.async false
set_option linter.all false
set_option maxRecDepth 100000
set_option maxHeartbeats 4000000
set_option autoImplicit false
namespace Nu
open PySem L2
def pw (t b : Int) : Int := if -1074 > bits t - bits b - 53 then -1074 else bits t - bits b - 53
def t1 (t b : Int) : Int := if pw t b < 0 then t * 2 ^ (0 - pw t b).toNat else t
def b1 (t b : Int) : Int := if pw t b < 0 then b else b * 2 ^ (pw t b).toNat
def b2 (t b : Int) : Int := if 9007199254740992 ≤ t1 t b / b1 t b then b1 t b * 2 ^ (1 : Int).toNat else b1 t b
def p2 (t b : Int) : Int := if 9007199254740992 ≤ t1 t b / b1 t b then pw t b + 1 else pw t b
def wq (t b : Int) : Int := t1 t b / b2 t b
def wr (t b : Int) : Int := t1 t b % b2 t b
def goesUp (t b : Int) : Prop := b2 t b < 2 * wr t b ∨ (2 * wr t b = b2 t b ∧ Builtin.bitAnd (wq t b) 1 = 1)
instance (t b : Int) : Decidable (goesUp t b) := inferInstanceAs (Decidable (_ ∨ _))
def wh (t b : Int) : Int := if goesUp t b then wq t b + 1 else wq t b
section
variable {t b : Int}
theorem pw_ge : -1074 ≤ pw t b := by unfold pw; split <;> omega
theorem pw_ge2 : bits t - bits b - 53 ≤ pw t b := by unfold pw; split <;> omega
theorem pw_le (h : bits t ≤ 2200) : pw t b ≤ 2200 := by
  have := bits_nn b
  unfold pw; split <;> omega
theorem bits_mul_pow {n : Int} (h : 0 ≤ n) (k : Nat) : bits (n * 2 ^ k) ≤ bits n + k := by
  by_cases z : n = 0
  · subst z; rw [Int.zero_mul, bits_zero]; omega
  · rw [bits_shift (by omega)]; omega
theorem t1_nn (h : 0 ≤ t) : 0 ≤ t1 t b := by
  unfold t1
  split
  · exact Int.mul_nonneg h (Int.le_of_lt (pow_pos2 _))
  · exact h
theorem b1_pos (h : 0 < b) : 0 < b1 t b := by
  unfold b1
  split
  · exact h
  · exact Int.mul_pos h (pow_pos2 _)
theorem b2_pos (h : 0 < b) : 0 < b2 t b := by
  have := b1_pos (t := t) h
  unfold b2
  split
  · exact Int.mul_pos this (pow_pos2 _)
  · exact this
theorem t1_bits (h : 0 ≤ t) (hb : bits t ≤ 2200) : bits (t1 t b) ≤ 3274 := by
  unfold t1
  split
  · have := bits_mul_pow h (0 - pw t b).toNat
    have := pw_ge (t := t) (b := b)
    omega
  · omega
theorem b1_bits (h : 0 < b) (ht : bits t ≤ 2200) (hb : bits b ≤ 2200) : bits (b1 t b) ≤ 4400 := by
  unfold b1
  split
  · omega
  · have := bits_mul_pow (n := b) (by omega) (pw t b).toNat
    have := pw_le (t := t) (b := b) ht
    omega
theorem b2_bits (h : 0 < b) (ht : bits t ≤ 2200) (hb : bits b ≤ 2200) : bits (b2 t b) ≤ 4401 := by
  have h1 := b1_bits h ht hb
  unfold b2
  split
  · have := bits_mul_pow (n := b1 t b) (by have := b1_pos (t := t) h; omega) (1 : Int).toNat
    have e : (((1 : Int).toNat : Nat) : Int) = 1 := rfl
    omega
  · omega
theorem p2_ge : -1074 ≤ p2 t b := by
  have := pw_ge (t := t) (b := b)
  unfold p2
  split <;> omega
/-- the quotient ahead of rounding has at most 54 bits -/
theorem t1_lt (ht : 0 ≤ t) (hb : 0 < b) : t1 t b < 18014398509481984 * b1 t b := by
  have h1 := lt_pow_bits (n := t) ht
  have h2 := pow_bits_le hb
  have hm := bits_pos hb
  have g := pw_ge2 (t := t) (b := b)
  have e54 : (18014398509481984 : Int) = 2 ^ 54 := by decide
  rw [e54]
  unfold bits at g
  generalize hn : Builtin.Int.intBits t = n at *
  generalize hk : Builtin.Int.intBits b = m at *
  unfold t1 b1
  split
  · rename_i c
    have a1 : t * 2 ^ (0 - pw t b).toNat < 2 ^ n * 2 ^ (0 - pw t b).toNat := Int.mul_lt_mul_of_pos_right h1 (pow_pos2 _)
    rw [← Int.pow_add] at a1
    have a2 : (2 : Int) ^ (n + (0 - pw t b).toNat) ≤ 2 ^ (54 + (m - 1)) := pow_mono (by omega)
    have a3 : (2 : Int) ^ (54 + (m - 1)) ≤ 2 ^ 54 * b := by
      rw [Int.pow_add]
      exact Int.mul_le_mul_of_nonneg_left h2 (by decide)
    omega
  · rename_i c
    have a2 : (2 : Int) ^ n ≤ 2 ^ (54 + (m - 1) + (pw t b).toNat) := pow_mono (by omega)
    have a3 : (2 : Int) ^ (54 + (m - 1) + (pw t b).toNat) ≤ 2 ^ 54 * (b * 2 ^ (pw t b).toNat) := by
      rw [Int.pow_add, Int.pow_add, Int.mul_assoc]
      exact Int.mul_le_mul_of_nonneg_left (Int.mul_le_mul_of_nonneg_right h2 (Int.le_of_lt (pow_pos2 _))) (by decide)
    omega
theorem wq_nn (ht : 0 ≤ t) (hb : 0 < b) : 0 ≤ wq t b := Int.ediv_nonneg (t1_nn ht) (Int.le_of_lt (b2_pos hb))
theorem wq_lt (ht : 0 ≤ t) (hb : 0 < b) : wq t b < 9007199254740992 := by
  have h := t1_lt ht hb
  have h1 := b1_pos (t := t) hb
  unfold wq b2
  split
  · have e : b1 t b * 2 ^ (1 : Int).toNat = 2 * b1 t b := by
      show b1 t b * 2 = _
      omega
    rw [e]
    refine Int.ediv_lt_of_lt_mul (by omega) ?_
    omega
  · omega
theorem wr_nn (hb : 0 < b) : 0 ≤ wr t b := Int.emod_nonneg _ (by have := b2_pos (t := t) hb; omega)
theorem wr_lt (hb : 0 < b) : wr t b < b2 t b := Int.emod_lt_of_pos _ (b2_pos hb)
theorem wh_nn (ht : 0 ≤ t) (hb : 0 < b) : 0 ≤ wh t b := by
  have := wq_nn ht hb
  unfold wh; split <;> omega
theorem wh_le (ht : 0 ≤ t) (hb : 0 < b) : wh t b ≤ 9007199254740992 := by
  have := wq_lt ht hb
  unfold wh; split <;> omega
theorem wh_fits (ht : 0 ≤ t) (hb : 0 < b) (h : bits (wh t b) + p2 t b ≤ 1024) : fitsB (red (wh t b) (p2 t b)).1 (red (wh t b) (p2 t b)).2 = true :=
  red_fits (wh_nn ht hb) (wh_le ht hb) p2_ge h
end
end Nu

set_option Elab.async false
set_option linter.all false
set_option maxRecDepth 100000
set_option autoImplicit false
set_option maxHeartbeats 4000000
/-! the same number with an odd top is one alone -/
namespace Nu
open PySem L2
theorem opu : ∀ (k j : Nat) (m n : Int), (2 : Int) ^ k * (2 * m + 1) = 2 ^ j * (2 * n + 1) → k = j ∧ m = n
  | 0, 0, m, n, h => ⟨rfl, by rw [Int.pow_zero, Int.one_mul, Int.one_mul] at h; omega⟩
  | 0, j + 1, m, n, h => by
    rw [Int.pow_zero, Int.one_mul, Int.pow_succ, Int.mul_comm (2 ^ j) 2, Int.mul_assoc] at h
    omega
  | k + 1, 0, m, n, h => by
    rw [Int.pow_zero, Int.one_mul, Int.pow_succ, Int.mul_comm (2 ^ k) 2, Int.mul_assoc] at h
    omega
  | k + 1, j + 1, m, n, h => by
    rw [Int.pow_succ, Int.pow_succ, Int.mul_comm (2 ^ k) 2, Int.mul_assoc, Int.mul_comm (2 ^ j) 2, Int.mul_assoc] at h
    obtain ⟨a, b⟩ := opu k j m n (by omega)
    exact ⟨by omega, b⟩
theorem red_of {m : Int} (hm : 0 ≤ m) (k : Nat) (p : Int) : red (2 ^ k * (2 * m + 1)) p = (2 * m + 1, p + k) := by
  have hp : (0 : Int) < 2 ^ k * (2 * m + 1) := Int.mul_pos (pow_pos2 k) (by omega)
  obtain ⟨j, n, hn, e, r⟩ := red_spec hp p
  obtain ⟨a, b⟩ := opu _ _ _ _ e
  subst a
  subst b
  exact r
theorem red_mul {t : Int} (h : 0 ≤ t) (p : Int) (k : Nat) : red (t * 2 ^ k) (p - k) = red t p := by
  by_cases z : t = 0
  · subst z
    rw [Int.zero_mul, red_zero, red_zero]
  obtain ⟨j, m, hm, e, r⟩ := red_spec (show 0 < t by omega) p
  rw [r, e, Int.mul_comm, ← Int.mul_assoc, ← Int.pow_add, red_of hm]
  have : p - (k : Int) + ((k + j : Nat) : Int) = p + (j : Int) := by omega
  rw [this]
theorem red_half {t : Int} (h : 0 < t) (he : t % 2 = 0) (p : Int) : red (t / 2) (p + 1) = red t p := by
  have e : t = t / 2 * 2 ^ 1 := by rw [Int.pow_succ, Int.pow_zero]; omega
  have := red_mul (t := t / 2) (by omega) (p + 1) 1
  rw [← e] at this
  rw [← this]
  congr 1
  omega
theorem red_odd {t : Int} (h : 0 < t) (he : t % 2 = 1) (p : Int) : red t p = (t, p) := by
  have := red_of (m := t / 2) (by omega) 0 p
  rw [Int.pow_zero, Int.one_mul, show 2 * (t / 2) + 1 = t by omega] at this
  rw [this]
  congr 1
  omega
theorem red_inj {t u p : Int} (ht : 0 ≤ t) (hu : 0 ≤ u) (e : red t p = red u p) : t = u := by
  by_cases z : t = 0
  · by_cases y : u = 0
    · omega
    · obtain ⟨j, m, hm, e2, r⟩ := red_spec (show 0 < u by omega) p
      rw [z, red_zero, r] at e
      have := congrArg Prod.fst e
      simp only at this
      omega
  · obtain ⟨j, m, hm, e2, r⟩ := red_spec (show 0 < t by omega) p
    by_cases y : u = 0
    · rw [y, red_zero, r] at e
      have := congrArg Prod.fst e
      simp only at this
      omega
    · obtain ⟨j', m', hm', e2', r'⟩ := red_spec (show 0 < u by omega) p
      rw [r, r'] at e
      have a := congrArg Prod.fst e
      have b := congrArg Prod.snd e
      simp only at a b
      have : m = m' := by omega
      have : j = j' := by omega
      subst m' j'
      rw [e2, e2']
theorem red_nn {t : Int} (h : 0 ≤ t) (p : Int) : 0 ≤ (red t p).1 := by
  by_cases z : t = 0
  · rw [z, red_zero]; decide
  · obtain ⟨j, m, hm, e2, r⟩ := red_spec (show 0 < t by omega) p
    rw [r]
    show 0 ≤ 2 * m + 1
    omega
theorem red_le {t : Int} (h : 0 ≤ t) (p : Int) : (red t p).1 ≤ t := by
  by_cases z : t = 0
  · rw [z, red_zero]; decide
  · obtain ⟨j, m, hm, e2, r⟩ := red_spec (show 0 < t by omega) p
    rw [r]
    show 2 * m + 1 ≤ t
    rw [e2]
    have := pow_pos2 j
    have : 1 * (2 * m + 1) ≤ 2 ^ j * (2 * m + 1) := Int.mul_le_mul_of_nonneg_right (by omega) (by omega)
    omega
/-- the law's question -/
def isF (t p : Int) : Bool := decide (t = 0) || (decide (-1074 ≤ p) && (decide (bits t ≤ 53) && decide (bits t + p ≤ 1024)))
theorem isF_eq {t p : Int} (h : 0 ≤ t) : isF t p = fitsB t p := by
  have e : decide (bits t ≤ 53) = decide (t < 9007199254740992) := by
    rw [show (9007199254740992 : Int) = 2 ^ 53 by decide]
    exact decide_eq_decide.2 (bits_lt_pow h (k := 53))
  unfold isF fitsB
  rw [e, Bool.or_comm]
  cases decide (-1074 ≤ p) <;> cases decide (t < 9007199254740992) <;> cases decide (bits t + p ≤ 1024) <;> cases decide (t = 0) <;> rfl
end Nu

set_option Elab.async false
set_option linter.all false
set_option maxRecDepth 100000
set_option maxHeartbeats 4000000
namespace Rd
open PySem PySem.Spec L2
section
variable {X : Cx}
theorem pgE (x : Str) {i : Int} {pos : Pos} (hm : ∃ t, X.mg x = some (.int i t)) (hg : Gl X x := by rfl) (hd : (x == ("__debug__" : Str)) = false := by decide) : PE X (.Name x pos) (tC (.int i)) := by
  obtain ⟨t, h⟩ := hm
  exact pe_glob hg h ⟨t, rfl⟩ hd
/-- e.f, as a target -/
def gFld (K : PySem.W.Frag) (to : TE) (f : Str) : TG := fun v σ H Q => to σ H fun x H1 => ∃ a C dx fs, x = .ref a ∧ H1 a = some (.ins C dx fs) ∧ Cls K C ∧ NoAttr K C f ∧ fs.length < 1000 ∧ Q σ (upd H1 a (.ins C dx (putF f v fs)))
theorem pg_fld {o : Expr} {f : Str} {pos : Pos} {to : TE} (ho : PE X o to) : PG X (.Attribute o f pos) (gFld X.K to f) := by
  refine ⟨fun pins s σ H v u Q I r h => ?_⟩
  rw [assign_Attribute]
  refine wpAny_bind (wpAny_holding (thn (ho.run pins s σ H _ I h) fun ov s1 ⟨x, H1, I1, r1, a, C, dx, fs, ex, ea, c, n, l, q1⟩ => ?_))
  subst ex
  obtain rfl : ov = Value.ref a := r1
  refine wpAny_bind (wpAny_standAt (wpAny_bind (wpAny_holding (setattr_ok I1 ea c n l r fun s3 I3 => ?_))))
  exact wpAny_release ⟨σ, _, I3, q1⟩
end
theorem same_get {H H' : Hp} {a : Addr} {o : HO} (s : Same H H') (h : H a = some o) : H' a = some o := s a o h
theorem same_upd {H : Hp} {a : Addr} {o : HO} (h : H a = none) : Same H (upd H a o) := fun b u e => by rw [upd_ne (ne_of_none e h)]; exact e
section
variable {σ : L2.St} {H : Hp} {Q : VK} {ta tb te : TE} {x y v : V} {K : PySem.W.Frag} {xs : List V}
theorem w_tupI (hl : xs.length ≤ 1000) (q : ∀ p H', Same H H' → H p = none → H' p = some (.tup xs) → Q (.ref p) H') : TupK xs H Q :=
  ⟨Nat.le_trans hl (by decide), fun p hp => q p _ (same_upd hp) hp upd_same⟩
theorem w_lstI (hl : xs.length ≤ 1000) (q : ∀ p H', Same H H' → H p = none → H' p = some (.lst xs) → Q (.ref p) H') : LstK xs H Q :=
  ⟨Nat.le_trans hl (by decide), fun p hp => q p _ (same_upd hp) hp upd_same⟩
theorem w_tup1 {x1 : V} (q : ∀ p H', Same H H' → H p = none → H' p = some (.tup [x1]) → Q (.ref p) H') : TupK [x1] H Q := w_tupI (by show 1 ≤ 1000; decide) q
theorem w_lst1 {x1 : V} (q : ∀ p H', Same H H' → H p = none → H' p = some (.lst [x1]) → Q (.ref p) H') : LstK [x1] H Q := w_lstI (by show 1 ≤ 1000; decide) q
theorem w_tup2 {x1 x2 : V} (q : ∀ p H', Same H H' → H p = none → H' p = some (.tup [x1, x2]) → Q (.ref p) H') : TupK [x1, x2] H Q := w_tupI (by show 2 ≤ 1000; decide) q
theorem w_lst2 {x1 x2 : V} (q : ∀ p H', Same H H' → H p = none → H' p = some (.lst [x1, x2]) → Q (.ref p) H') : LstK [x1, x2] H Q := w_lstI (by show 2 ≤ 1000; decide) q
theorem w_tup3 {x1 x2 x3 : V} (q : ∀ p H', Same H H' → H p = none → H' p = some (.tup [x1, x2, x3]) → Q (.ref p) H') : TupK [x1, x2, x3] H Q := w_tupI (by show 3 ≤ 1000; decide) q
theorem w_lst4 {x1 x2 x3 x4 : V} (q : ∀ p H', Same H H' → H p = none → H' p = some (.lst [x1, x2, x3, x4]) → Q (.ref p) H') : LstK [x1, x2, x3, x4] H Q := w_lstI (by show 4 ≤ 1000; decide) q
theorem w_lst3 {x1 x2 x3 : V} (q : ∀ p H', Same H H' → H p = none → H' p = some (.lst [x1, x2, x3]) → Q (.ref p) H') : LstK [x1, x2, x3] H Q := w_lstI (by show 3 ≤ 1000; decide) q
theorem w_in {p : Addr} (h : H p = some (.tup xs)) (f1 : flatV x = true) (f2 : xs.all flatV = true) (q : Q (.bl (inV x xs)) H) : rIn K false x (.ref p) H Q := ⟨p, xs, rfl, .inr (SqT.of h), f1, f2, q⟩
theorem w_nin {p : Addr} (h : H p = some (.tup xs)) (f1 : flatV x = true) (f2 : xs.all flatV = true) (q : Q (.bl (!inV x xs)) H) : rIn K true x (.ref p) H Q := ⟨p, xs, rfl, .inr (SqT.of h), f1, f2, q⟩
theorem w_gtup {n : Nat} {t : TGs} {a : Addr} {Q : L2.St → Hp → Prop} (h : H a = some (.tup xs)) (hn : xs.length = n) (q : t xs σ H Q) : gTup K n t (.ref a) σ H Q := ⟨a, xs, rfl, SqT.of h, hn, q⟩
theorem w_gcons {t : TG} {u : TGs} {v : V} {r : List V} {Q : L2.St → Hp → Prop} (h : t v σ H fun σ' H' => u r σ' H' Q) : gCons t u (v :: r) σ H Q := ⟨v, r, rfl, h⟩
theorem w_gnil {Q : L2.St → Hp → Prop} (h : Q σ H) : gNil [] σ H Q := ⟨rfl, h⟩
theorem w_ixT {p : Addr} {i : Int} (h : H p = some (.tup xs)) (ha : atI xs i = some v) (q : Q v H) : rIxT K (.ref p) (.int i) H Q := ⟨p, xs, i, v, rfl, rfl, SqT.of h, ha, q⟩
theorem w_ixL {p : Addr} {i : Int} (h : H p = some (.lst xs)) (ha : atI xs i = some v) (q : Q v H) : rIxL K (.ref p) (.int i) H Q := ⟨p, xs, i, v, rfl, rfl, SqL.of h, ha, q⟩
theorem w_isN (q : Q (.bl (decide (x = .non))) H) : (V.non = .non ∧ Q (.bl (decide (x = .non))) H) := ⟨rfl, q⟩
theorem dec_ii {i j : Int} : decide (V.int i = V.int j) = decide (i = j) := by
  by_cases h : i = j
  · subst h; simp
  · rw [decide_eq_false h, decide_eq_false (fun e => h (V.int.inj e))]
theorem dec_ss {i j : Str} : decide (V.str i = V.str j) = decide (i = j) := by
  by_cases h : i = j
  · subst h; simp
  · rw [decide_eq_false h, decide_eq_false (fun e => h (V.str.inj e))]
theorem dec_is {i : Int} {j : Str} : decide (V.int i = V.str j) = false := decide_eq_false (fun e => nomatch e)
theorem dec_si {i : Int} {j : Str} : decide (V.str j = V.int i) = false := decide_eq_false (fun e => nomatch e)
/-- the test of two ints for equality -/
theorem w_eqI {i j : Int} (q : Q (.bl (decide (i = j))) H) : rEq (.int i) (.int j) H Q := ⟨rfl, by rw [dec_ii]; exact q⟩
theorem w_neI {i j : Int} (q : Q (.bl (!decide (i = j))) H) : rNe (.int i) (.int j) H Q := ⟨rfl, by rw [dec_ii]; exact q⟩
theorem w_eqS {i j : Str} (q : Q (.bl (decide (i = j))) H) : rEq (.str i) (.str j) H Q := ⟨rfl, by rw [dec_ss]; exact q⟩
theorem w_eqIS {i : Int} {j : Str} (q : Q (.bl false) H) : rEq (.int i) (.str j) H Q := ⟨rfl, by rw [dec_is]; exact q⟩
theorem w_eqSI {i : Int} {j : Str} (q : Q (.bl false) H) : rEq (.str j) (.int i) H Q := ⟨rfl, by rw [dec_si]; exact q⟩
/-- the object ahead of a method's call -/
def MethK (C : Addr) (m : Str) (R : V → Hp → Prop) (x : V) (H : Hp) : Prop := ∃ a dx fs, x = .ref a ∧ H a = some (.ins C dx fs) ∧ fs.lookup m = none ∧ R x H
theorem w_meth {C : Addr} {m : Str} {sp : Sp} {dvs : List V} {E : XK} {t : TA} (h : ta σ H fun x H1 => MethK C m (fun x H1 => t σ H1 fun vs H2 => sp (x :: (vs ++ dvs)) H2 Q E) x H1) : tMeth C m sp dvs E ta t σ H Q := h
theorem w_methI {C : Addr} {m : Str} {R : V → Hp → Prop} {a dx : Addr} {fs : List (Str × V)} (h : H a = some (.ins C dx fs)) (l : fs.lookup m = none) (q : R (.ref a) H) : MethK C m R (.ref a) H := ⟨a, dx, fs, rfl, h, l, q⟩
theorem w_nn {R : Prop} (q : R) : V.non = V.non ∧ R := ⟨rfl, q⟩
end
/-- a class whose __init__ has defaults dvs behind what is written -/
structure KnCD (P : Program) (w : World) (K : PySem.W.Frag) (mg : Str → Option Value) (base : Heap) (CX : CXT) (k : Nat) (x : Str) (C : Addr) (ps : List Str) (dvs : List V) (sp : Sp) : Prop where
  ex : ∃ f fd ds, mg x = some (.ref C) ∧ Mk K C f ∧ Vals dvs ds ∧ Binds K fd ps ds ∧ FnOk P w K mg base CX k f fd ps sp
theorem pkCD {X : Cx} {k j : Nat} {x : Str} {ps : List Str} {sp : Sp} {p pos : Pos} {e : Expr} {es : List Expr} {t : TA} {C : Addr} {dvs : List V} (h : KnCD X.prog X.w X.K X.mg X.base CX0 k x C ps dvs sp) (hr : Room j X.A) (ha : PA X (e :: es) t) (hj : k + 1 ≤ j := by decide) (hg : Gl X x := by rfl) (hdb : (x == ("__debug__" : Str)) = false := by decide)
    (he : starEach (e :: es) X.env = (false, eval e X.env) :: starEach es X.env := by rfl) (hpl : (backTo pos (starEach es X.env)).any (·.1) = false := by rfl) : PE X (.Call (.Name x p) (e :: es) [] pos) (tMake C sp dvs E0 t) := by
  obtain ⟨f, fd, ds, a, b, c, d, g⟩ := h.ex
  exact pe_make b g (hr.mono hj) hg a d c pass0 ha hdb he hpl
def MakeKD (C : Addr) (sp : Sp) (dvs vs : List V) (H1 : Hp) (Q : VK) (E : XK) : Prop := ∀ x dx, H1 x = none → H1 dx = none → dx ≠ x → sp (.ref x :: (vs ++ dvs)) (upd (upd H1 dx (.own x)) x (.ins C dx [])) (fun v H2 => v = .non ∧ Q (.ref x) H2) E
theorem w_makeD {C : Addr} {sp : Sp} {E : XK} {t : TA} {dvs : List V} {σ : L2.St} {H : Hp} {Q : VK} (h : t σ H fun vs H1 => MakeKD C sp dvs vs H1 Q E) : tMake C sp dvs E t σ H Q := h
/-- xs * k -/
theorem w_rep {l : Addr} {k : Int} {xs : List V} {H : Hp} {Q : VK} (h : H l = some (.lst xs)) (h1 : -(2 ^ 63) ≤ k) (h2 : k < 2 ^ 63) (h3 : xs.length * k.toNat ≤ sizeLine) (q : ∀ p H', Same H H' → H p = none → H' p = some (.lst (List.replicate k.toNat xs).flatten) → Q (.ref p) H') : rRep (.ref l) (.int k) H Q :=
  ⟨l, k, xs, rfl, rfl, h, h1, h2, h3, fun p hp => q p _ (same_upd hp) hp upd_same⟩
theorem w_lenL {p : Addr} {K : PySem.W.Frag} {xs : List V} {H : Hp} {R : List V → Prop} (h : H p = some (.lst xs)) (q : R xs) : ∃ p' ys, [V.ref p] = [V.ref p'] ∧ (SqL K H p' ys ∨ SqT K H p' ys) ∧ R ys := ⟨p, xs, rfl, .inl (SqL.of h), q⟩
/-- all but what stands at x is as it was -/
def Oth (x : Addr) (H H' : Hp) : Prop := ∀ b o, b ≠ x → H b = some o → H' b = some o
theorem Oth.refl {x : Addr} {H : Hp} : Oth x H H := fun _ _ _ e => e
theorem Oth.same {x : Addr} {H H1 H2 : Hp} (a : Oth x H H1) (s : Same H1 H2) : Oth x H H2 := fun b o hb e => s b o (a b o hb e)
theorem Oth.put {x : Addr} {H H1 : Hp} {o : HO} (a : Oth x H H1) : Oth x H (upd H1 x o) := fun b u hb e => by rw [upd_ne hb]; exact a b u hb e
theorem Oth.trans {x : Addr} {H H1 H2 : Hp} (a : Oth x H H1) (b : Oth x H1 H2) : Oth x H H2 := fun c o hc e => b c o hc (a c o hc e)
theorem Same.oth {x : Addr} {H H1 : Hp} (s : Same H H1) : Oth x H H1 := fun b o _ e => s b o e
end Rd

set_option Elab.async false
set_option linter.all false
set_option maxRecDepth 100000
set_option autoImplicit false
set_option maxHeartbeats 4000000
namespace Rd
open PySem PySem.Spec PyProof.Rows PySem.SeqAt L2
/-! bool - bool -/
theorem sub_bools (a b : Bool) : Gives (Builtin.«int.__sub__» ⟨[.bool a, .bool b], []⟩) (.int ((if a = true then (1 : Int) else 0) - if b = true then (1 : Int) else 0)) :=
  .of_wp fun M A E s Q h => by obtain ⟨hp, g, d, tk, os⟩ := s; wp_walk; exact ⟨_, rfl, h⟩
def rSubB : R2 := fun x y H Q => ∃ a b, x = .bl a ∧ y = .bl b ∧ Q (.int ((if a = true then (1 : Int) else 0) - if b = true then (1 : Int) else 0)) H
theorem op_sub_bb {X : Cx} : OpR X (binaryOp .Sub) rSubB := by
  intro pins s σ H x y v u Q I rx ry h
  obtain ⟨a, b, rfl, rfl, q⟩ := h
  cases rx
  cases ry
  exact binaryOp_gives (op := .Sub) (T := "bool") rfl rfl F.fills_bool_sub F.slot_bool_sub F.entry_int_sub (F.args_int_sub_2 _ _) (sub_bools a b) trivial ⟨.int _, H, I.tok _, ⟨_, rfl⟩, q⟩
theorem w_subB {H : Hp} {Q : VK} {a b : Bool} (q : Q (.int ((if a = true then (1 : Int) else 0) - if b = true then (1 : Int) else 0)) H) : rSubB (.bl a) (.bl b) H Q := ⟨a, b, rfl, rfl, q⟩
/-! == of instances without an __eq__ of their own -/
section
variable {prog : Program} {w : World} {A : Around} {E : Value → Shared → Prop} {s : Shared} {K : PySem.W.Frag} {x y C : Addr} {ox oy : Obj} {od od' : Option Obj}
theorem call_objEqO {Q : Value → Shared → Prop} (X : K.In s.heap) (I : PySem.W.InstAt s.heap x ox C od) (hm : PySem.W.mroIn K C (.type "object") = some true) (hx : s.heap.get? x = some ox) (hy : s.heap.get? y = some oy) (hxy : x ≠ y) (hnt : ox.cls ≠ .type "tuple") (hq : Q .notImplemented s) :
    wpAny (model prog w) A (call (.builtin "object.__eq__") [.ref x, .ref y]) Q E s :=
  wpAny_call (codeAny_call_builtin F.cmp_object.eq.plain F.cmpEntry_eq (PySem.W.check_slot F.cmpKind_eq F.cmpSplit_eq (I.type.andThen (PySem.W.looks_mroIn X hm)) (F.cmpArgs_eq _ _) (objEq_entry_other hxy hx hy hnt hq)))
theorem call_objEqS {Q : Value → Shared → Prop} (X : K.In s.heap) (I : PySem.W.InstAt s.heap x ox C od) (hm : PySem.W.mroIn K C (.type "object") = some true) (hq : Q (.bool true) s) :
    wpAny (model prog w) A (call (.builtin "object.__eq__") [.ref x, .ref x]) Q E s :=
  wpAny_call (codeAny_call_builtin F.cmp_object.eq.plain F.cmpEntry_eq (PySem.W.check_slot F.cmpKind_eq F.cmpSplit_eq (I.type.andThen (PySem.W.looks_mroIn X hm)) (F.cmpArgs_eq _ _) (objEq_entry_same hq)))
theorem rc_other (hu : A.units < cLine) (X : K.In s.heap) (I : PySem.W.InstAt s.heap x ox C od) (I' : PySem.W.InstAt s.heap y oy C od') (hx : s.heap.get? x = some ox) (hy : s.heap.get? y = some oy) (hnt : ox.cls ≠ .type "tuple") (hnt' : oy.cls ≠ .type "tuple") (hxy : x ≠ y)
    (hm : PySem.W.mroIn K C (.type "object") = some true) (hs : PySem.W.findIn K (.ref C) "__eq__" = some (some (.builtin "object.__eq__"))) : RcAt A s (.ref x) (.ref y) false := fun prog w E Q h => by
  have one : wpAny (model prog w) A (tryCompare (.ref x) "__eq__" (.ref y)) (fun r s' => r = none ∧ s' = s) E s := by
    unfold tryCompare
    exact wpAny_bind (HN.ifBound_objEq X I hs (call_objEqO X I hm hx hy hxy hnt (wpAny_pure ⟨rfl, rfl⟩)))
  have two : wpAny (model prog w) A (tryCompare (.ref y) "__eq__" (.ref x)) (fun r s' => r = none ∧ s' = s) E s := by
    unfold tryCompare
    exact wpAny_bind (HN.ifBound_objEq X I' hs (call_objEqO X I' hm hy hx hxy.symm hnt' (wpAny_pure ⟨rfl, rfl⟩)))
  simp only [richCompare, cmpInfo_Eq, oneThing_ref]
  refine wpAny_holding (wpAny_bind (wpAny_cRoomFor hu ?_))
  refine wpAny_bind (I.type.here ?_)
  refine wpAny_bind (I'.type.here ?_)
  rw [if_neg (by simp)]
  refine wpAny_bind (wpAny_pure ?_)
  simp only [Bool.false_eq_true, if_false, Bool.not_false, if_true]
  refine wpAny_bind (m := tryCompare (.ref x) _ (.ref y)) (wpAny_mono one (fun r s1 z => ?_) fun _ _ e => e)
  obtain ⟨z1, z2⟩ := z
  subst z1
  subst z2
  refine wpAny_bind (m := tryCompare (.ref y) _ (.ref x)) (wpAny_mono two (fun r s2 z => ?_) fun _ _ e => e)
  obtain ⟨z1, z2⟩ := z
  subst z1
  subst z2
  exact wpAny_bind (wpAny_rule (wpAny_bind (wpAny_isSame_ref_other hxy hx hy hnt (wpAny_pure h))))
theorem rc_self (hu : A.units < cLine) (X : K.In s.heap) (I : PySem.W.InstAt s.heap x ox C od) (hm : PySem.W.mroIn K C (.type "object") = some true) (hs : PySem.W.findIn K (.ref C) "__eq__" = some (some (.builtin "object.__eq__"))) : RcAt A s (.ref x) (.ref x) true := fun prog w E Q h => by
  have one : wpAny (model prog w) A (tryCompare (.ref x) "__eq__" (.ref x)) (fun r s' => r = some (.bool true) ∧ s' = s) E s := by
    unfold tryCompare
    exact wpAny_bind (HN.ifBound_objEq X I hs (call_objEqS X I hm (wpAny_pure ⟨rfl, rfl⟩)))
  simp only [richCompare, cmpInfo_Eq, oneThing_ref]
  refine wpAny_holding (wpAny_bind (wpAny_cRoomFor hu ?_))
  refine wpAny_bind (I.type.here ?_)
  refine wpAny_bind (I.type.here ?_)
  rw [if_neg (by simp)]
  refine wpAny_bind (wpAny_pure ?_)
  simp only [Bool.false_eq_true, if_false, Bool.not_false, if_true]
  refine wpAny_bind (m := tryCompare (.ref x) _ (.ref x)) (wpAny_mono one (fun r s1 z => ?_) fun _ _ e => e)
  obtain ⟨z1, z2⟩ := z
  subst z1
  subst z2
  exact wpAny_pure h
theorem rc_none2 (hu : A.units < cLine) (X : K.In s.heap) (I : PySem.W.InstAt s.heap x ox C od) (hm : PySem.W.mroIn K C (.type "object") = some true) (hs : PySem.W.findIn K (.ref C) "__eq__" = some (some (.builtin "object.__eq__")))
    (hsub : PySem.W.subIn K (.ref C) (.type "NoneType") = some false) : RcAt A s .none (.ref x) false := fun prog w E Q h => by
  have one : wpAny (model prog w) A (tryCompare (.ref x) "__eq__" .none) (fun r s' => r = none ∧ s' = s) E s := by
    unfold tryCompare
    exact wpAny_bind (HN.ifBound_objEq X I hs (HN.call_objEq X I hm (wpAny_pure ⟨rfl, rfl⟩)))
  have two : wpAny (model prog w) A (tryCompare .none "__eq__" (.ref x)) (fun r s' => r = none ∧ s' = s) E s :=
    wpAny_tryCompare_declines (show s.TypeIs .none "NoneType" from rfl) F.slot_NoneType_eq_refl (call_gives F.slot_NoneType_eq_refl rfl F.entry_NoneType_eq (F.args_NoneType_eq_2 _ _) (NoneType___eq___none_ref_0 x) ⟨rfl, rfl, rfl⟩)
  simp only [richCompare, cmpInfo_Eq]
  refine wpAny_holding (wpAny_bind (wpAny_cRoomFor hu ?_))
  refine wpAny_bind (wpAny_typeOf (show s.TypeIs .none "NoneType" from rfl) ?_)
  refine wpAny_bind (I.type.here ?_)
  rw [if_pos (by simp)]
  refine wpAny_bind ((PySem.W.looks_subIn X hsub).here ?_)
  simp only [Bool.false_eq_true, if_false, Bool.not_false, if_true]
  refine wpAny_bind (m := tryCompare .none _ (.ref x)) (wpAny_mono two (fun r s1 z => ?_) fun _ _ e => e)
  obtain ⟨z1, z2⟩ := z
  subst z1
  subst z2
  refine wpAny_bind (m := tryCompare (.ref x) _ .none) (wpAny_mono one (fun r s2 z => ?_) fun _ _ e => e)
  obtain ⟨z1, z2⟩ := z
  subst z1
  subst z2
  exact wpAny_bind (wpAny_rule (wpAny_bind (wpAny_of_eq (rfl : isSame .none (.ref x) = pure false) (wpAny_pure h))))
end
/-- what the text's class at C must have for the == of object -/
structure ObjC (K : PySem.W.Frag) (C : Addr) : Prop where
  hm : PySem.W.mroIn K C (.type "object") = some true
  hs : PySem.W.findIn K (.ref C) "__eq__" = some (some (.builtin "object.__eq__"))
  hn : PySem.W.subIn K (.ref C) (.type "NoneType") = some false
def InsV (C : Addr) (H : Hp) (x : V) : Prop := ∃ a dx fs, x = .ref a ∧ H a = some (.ins C dx fs)
def rEqO (C : Addr) : R2 := fun x y H Q => (scal x y = true ∨ (InsV C H x ∧ (y = .non ∨ InsV C H y)) ∨ (x = .non ∧ InsV C H y)) ∧ Q (.bl (decide (x = y))) H
theorem op_eqO {X : Cx} {C : Addr} (hu : X.A.units < cLine) (O : ObjC X.K C) : OpR X (compareOp .Eq) (rEqO C) := by
  intro pins s σ H x y v u Q I rx ry h
  obtain ⟨c, q⟩ := h
  rcases c with c | ⟨⟨a, dx, fs, rfl, ha⟩, c⟩ | ⟨rfl, ⟨b, dy, gs, rfl, hb⟩⟩
  · exact op_eq pins s σ H x y v u Q I rx ry ⟨c, q⟩
  · cases rx
    obtain ⟨mA, OA, _⟩ := ins_get I.hok ha
    obtain ⟨od, J, _⟩ := OA.look
    have ga : s.heap.get? a = some (PySem.W.instObj C dx) := OA.obj
    rcases c with rfl | ⟨b, dy, gs, rfl, hb⟩
    · cases ry
      show wpAny (model X.prog X.w) X.A (richCompare .Eq _ _) (EP X pins σ Q) X.xe s
      refine HN.rc_none hu I.kIn J O.hm O.hs X.prog X.w X.xe _ ⟨.bl false, H, I, rfl, ?_⟩
      rw [decide_eq_false (fun e => nomatch e)] at q
      exact q
    · cases ry
      obtain ⟨mB, OB, _⟩ := ins_get I.hok hb
      obtain ⟨od', J', _⟩ := OB.look
      have gb : s.heap.get? b = some (PySem.W.instObj C dy) := OB.obj
      show wpAny (model X.prog X.w) X.A (richCompare .Eq _ _) (EP X pins σ Q) X.xe s
      by_cases hab : a = b
      · subst hab
        refine rc_self hu I.kIn J O.hm O.hs X.prog X.w X.xe _ ⟨.bl true, H, I, rfl, ?_⟩
        rw [decide_eq_true rfl] at q
        exact q
      · refine rc_other hu I.kIn J J' ga gb (by intro e; cases e) (by intro e; cases e) hab O.hm O.hs X.prog X.w X.xe _ ⟨.bl false, H, I, rfl, ?_⟩
        rw [decide_eq_false (fun e => hab (V.ref.inj e))] at q
        exact q
  · cases rx
    cases ry
    obtain ⟨mB, OB, _⟩ := ins_get I.hok hb
    obtain ⟨od', J', _⟩ := OB.look
    show wpAny (model X.prog X.w) X.A (richCompare .Eq _ _) (EP X pins σ Q) X.xe s
    refine rc_none2 hu I.kIn J' O.hm O.hs O.hn X.prog X.w X.xe _ ⟨.bl false, H, I, rfl, ?_⟩
    rw [decide_eq_false (fun e => nomatch e)] at q
    exact q
end Rd

set_option Elab.async false
set_option linter.all false
set_option maxRecDepth 100000
set_option autoImplicit false
set_option maxHeartbeats 4000000
namespace Rd
open PySem PySem.Spec PyProof.Rows L2
section
variable {σ : L2.St} {H : Hp} {Q : VK} {K : PySem.W.Frag}
theorem w_int1 {R : Int → Prop} {S : Bool → Prop} {i : Int} (q : R i) : (∃ i', [V.int i] = [V.int i'] ∧ R i') ∨ (∃ k, [V.int i] = [V.bl k] ∧ S k) := .inl ⟨i, rfl, q⟩
theorem w_intB {R : Int → Prop} {S : Bool → Prop} {k : Bool} (q : S k) : (∃ i', [V.bl k] = [V.int i'] ∧ R i') ∨ (∃ k', [V.bl k] = [V.bl k'] ∧ S k') := .inr ⟨k, rfl, q⟩
theorem w_gsub {to ti : TE} {t : TSet} {v : V} {Q : L2.St → Hp → Prop} (h : to σ H fun o H1 => ti σ H1 fun i H2 => t o i v H2 fun H3 => Q σ H3) : gSub to ti t v σ H Q := h
theorem w_setL {p : Addr} {xs : List V} {k : Int} {j : Nat} {v : V} {Q : Hp → Prop} (h : H p = some (.lst xs)) (hj : ixN xs.length k = some j) (q : Q (upd H p (.lst (xs.set j v)))) : rSetL (.ref p) (.int k) v H Q := ⟨p, xs, k, j, rfl, rfl, h, hj, q⟩
theorem w_for {wi : TI} {g : TG} {tb : TS} {D : Ends} (h : wi σ H fun J H1 => ∃ W : Nat → Nat → L2.St → Hp → Prop, (∃ m, W 0 m σ H1) ∧ ∀ i m σ H, W i m σ H →
  (J.stop i H ∧ D.nx σ H) ∨ (J.go i H ∧ ∃ N : L2.St → Hp → Prop, (∀ σ' H', N σ' H' → ∃ m', m' < m ∧ W (i + 1) m' σ' H') ∧ ∀ x H', J.yld i H x H' → g x σ H' fun σ2 H2 => tb { D with nx := N, ct := N, bk := D.nx } σ2 H2)) : tFor wi g tb D σ H := h
def Rng1K (R : It → Hp → Prop) (j : Int) (H : Hp) : Prop := -(2 ^ 62) ≤ j ∧ j < 2 ^ 62 ∧ R (Itr 0 j.toNat) H
theorem w_rng1 {ta : TA} {R : It → Hp → Prop} (h : ta σ H fun vs H1 => ∃ j : Int, vs = [.int j] ∧ -(2 ^ 62) ≤ j ∧ j < 2 ^ 62 ∧ R (Itr 0 j.toNat) H1) : iRng1 ta σ H R := h
theorem w_iList {tl : TE} {R : It → Hp → Prop} (h : tl σ H fun x H1 => ∃ a, x = .ref a ∧ (∃ xs, SqL K H1 a xs) ∧ R (Itl K a) H1) : iList K tl σ H R := h
theorem w_iTup {tl : TE} {R : It → Hp → Prop} (h : tl σ H fun x H1 => ∃ a, x = .ref a ∧ (∃ xs, SqT K H1 a xs) ∧ R (Itt K a) H1) : iTup K tl σ H R := h
theorem w_rng1I {R : Int → Prop} {j : Int} (h1 : -(2 ^ 62) ≤ j) (h2 : j < 2 ^ 62) (q : R j) : ∃ j' : Int, [V.int j] = [V.int j'] ∧ -(2 ^ 62) ≤ j' ∧ j' < 2 ^ 62 ∧ R j' := ⟨j, rfl, h1, h2, q⟩
theorem w_iListI {R : Addr → Prop} {a : Addr} {xs : List V} (h : H a = some (.lst xs)) (q : R a) : ∃ a', V.ref a = .ref a' ∧ (∃ xs, SqL K H a' xs) ∧ R a' := ⟨a, rfl, ⟨xs, SqL.of h⟩, q⟩
theorem w_iTupI {R : Addr → Prop} {a : Addr} {xs : List V} (h : H a = some (.tup xs)) (q : R a) : ∃ a', V.ref a = .ref a' ∧ (∃ xs, SqT K H a' xs) ∧ R a' := ⟨a, rfl, ⟨xs, SqT.of h⟩, q⟩
/-- xs + ys, lists -/
theorem w_cat {l b : Addr} {xs zs : List V} (h : H l = some (.lst xs)) (h' : H b = some (.lst zs)) (hz : xs.length + zs.length ≤ sizeLine) (q : ∀ p H', Same H H' → H p = none → H' p = some (.lst (xs ++ zs)) → Q (.ref p) H') : rCat (.ref l) (.ref b) H Q :=
  ⟨l, b, xs, zs, rfl, rfl, h, h', hz, fun p hp => q p _ (same_upd hp) hp upd_same⟩
end
theorem cmulW {i j : Int} (h : (Builtin.Int.intBits i : Int) + (Builtin.Int.intBits j : Int) ≤ 134217728) : CMulX i j := h
theorem cpow {i j : Int} (h0 : 0 ≤ j) (h1 : j ≤ 1000000) (h2 : i.natAbs < 2 ^ 64) : CPow i j := ⟨h0, h1, h2⟩
end Rd

set_option Elab.async false
set_option linter.all false
set_option maxRecDepth 100000
set_option autoImplicit false
set_option maxHeartbeats 4000000
namespace Rd
open PySem PySem.Spec PyProof.Rows L2
theorem pe_nev {X : Cx} {e : Expr} : PE X e (fun _ _ _ => False) := ⟨fun _ _ _ _ _ _ h => h.elim⟩
section
variable {σ : L2.St} {H : Hp}
theorem w_while {tc : TT} {tb : TS} {D : Ends} (W : Nat → L2.St → Hp → Prop) {m : Nat} (h0 : W m σ H)
    (h : ∀ m σ H, W m σ H → tc σ H fun b H1 => if b = true then ∃ N : L2.St → Hp → Prop, (∀ σ' H', N σ' H' → ∃ m', m' < m ∧ W m' σ' H') ∧ tb { D with nx := N, ct := N, bk := D.nx } σ H1 else D.nx σ H1) : tWhile tc tb D σ H := ⟨W, ⟨m, h0⟩, h⟩
theorem w_turn {W : Nat → L2.St → Hp → Prop} {m : Nat} {tb : TS} {D : Ends} (h : tb { D with nx := fun σ' H' => ∃ m', m' < m ∧ W m' σ' H', ct := fun σ' H' => ∃ m', m' < m ∧ W m' σ' H', bk := D.nx } σ H) : ∃ N : L2.St → Hp → Prop, (∀ σ' H', N σ' H' → ∃ m', m' < m ∧ W m' σ' H') ∧ tb { D with nx := N, ct := N, bk := D.nx } σ H := ⟨_, fun _ _ z => z, h⟩
end
/-- a if c else b, as a test -/
def tIfT (tc t u : TT) : TT := fun σ H Q => tc σ H fun c H1 => if c = true then t σ H1 Q else u σ H1 Q
theorem pt_ifExp {X : Cx} {c a b : Expr} {pos : Pos} {tc t u : TT} (hc : PT X c tc) (ha : PT X a t) (hb : PT X b u) : PT X (.IfExp c a b pos) (tIfT tc t u) := by
  refine ⟨fun pins s σ H Q I h => ?_⟩
  have e : ∀ wh, isTrue (.IfExp c a b pos) X.env wh = (do if ← isTrue c X.env (eval c X.env) then isTrue a X.env (eval a X.env) else isTrue b X.env (eval b X.env)) := fun wh => by rfl
  rw [e]
  refine wpAny_bind (thn (hc.run pins s σ H _ I h) fun d s1 ⟨H1, I1, q1⟩ => ?_)
  cases d with
  | true => exact ha.run pins s1 σ H1 Q I1 (by rw [if_pos rfl] at q1; exact q1)
  | false => exact hb.run pins s1 σ H1 Q I1 (by rw [if_neg Bool.false_ne_true] at q1; exact q1)
section
variable {σ : L2.St} {H : Hp}
theorem w_ifT {tc t u : TT} {Q : Bool → Hp → Prop} (h : tc σ H fun c H1 => if c = true then t σ H1 Q else u σ H1 Q) : tIfT tc t u σ H Q := h
theorem w_chain {r r' : R2} {ta tb tc : TE} {Q : VK} (h : ta σ H fun x H1 => tb σ H1 fun y H2 => r x y H2 fun z H3 => ∃ k, z = .bl k ∧ if k = true then tc σ H3 fun y' H4 => r' y y' H4 Q else Q (.bl false) H3) : tChain r r' ta tb tc σ H Q := h
/-- data, compared -/
theorem w_eqD {K : PySem.W.Frag} {x y : V} {d e : PyData} {Q : VK} (h1 : Dp K H x d) (h2 : Dp K H y e) (s1 : SeqAt.shaped d = true) (s2 : SeqAt.shaped e = true) (q : Q (.bl (PyData.eqv d e)) H) : rEqD K x y H Q := ⟨d, e, h1, h2, s1, s2, q⟩
end
end Rd

set_option Elab.async false
set_option linter.all false
set_option maxRecDepth 100000
set_option autoImplicit false
set_option maxHeartbeats 4000000
namespace Rd
open PySem PySem.Spec PyProof.Rows L2
/-- list + list, each as it stands, ours or the document's -/
def rCatS (K : PySem.W.Frag) : R2 := fun x y H Q => ∃ l b xs zs, x = .ref l ∧ y = .ref b ∧ SqL K H l xs ∧ SqL K H b zs ∧ xs.length + zs.length ≤ sizeLine ∧ ∀ p, H p = none → Q (.ref p) (upd H p (.lst (xs ++ zs)))
theorem op_catS {X : Cx} : OpR X (binaryOp .Add) (rCatS X.K) := by
  intro pins s σ H x y v u Q I rx ry h
  obtain ⟨l, b, xs, zs, rfl, rfl, hH, hB, hz, q⟩ := h
  cases rx
  cases ry
  obtain ⟨its, r, e, z⟩ := I.list hH
  obtain ⟨its2, r2, e2, z2⟩ := I.list hB
  have l1 := r.length
  have l2 := r2.length
  obtain ⟨⟨cls, dd, data, sl⟩, n, ho, hc, hd, hda⟩ := e
  obtain ⟨⟨cls2, dd2, data2, sl2⟩, n2, ho2, hc2, hd2, hda2⟩ := e2
  simp only at hc hd hda hc2 hd2 hda2
  subst hc hd hda hc2 hd2 hda2
  have ea : its.toArray ++ its2.toArray = (its ++ its2).toArray := by simp
  refine concat_meets ⟨_, ho, rfl⟩ ⟨_, ho2, rfl⟩ noFill_list_add seq_list_add PySem.F.slot_list_add PySem.F.entry_list_add (PySem.F.args_list_add_2 _ _) (list_addW l b its.toArray its2.toArray n n2 none none sl sl2 (by rw [List.size_toArray, List.size_toArray]; omega)) ⟨ho, ho2, ?_⟩
  rw [ea]
  exact ⟨.ref _, _, I.lnew (t' := s.toks) (r.append r2) (by rw [List.length_append]; omega), rfl, q _ I.fresh⟩
section
variable {σ : L2.St} {H : Hp} {Q : VK} {K : PySem.W.Frag}
theorem w_catS {l b : Addr} {xs zs : List V} (h : SqL K H l xs) (h' : H b = some (.lst zs)) (hz : xs.length + zs.length ≤ sizeLine) (q : ∀ p H', Same H H' → H p = none → H' p = some (.lst (xs ++ zs)) → Q (.ref p) H') : rCatS K (.ref l) (.ref b) H Q :=
  ⟨l, b, xs, zs, rfl, rfl, h, SqL.of h', hz, fun p hp => q p _ (same_upd hp) hp upd_same⟩
theorem w_sl {r : V → Option Int → Option Int → Hp → VK → Prop} {te : TE} {tl th : TO} (h : te σ H fun x H1 => tl σ H1 fun l H2 => th σ H2 fun u H3 => r x l u H3 Q) : tSl r te tl th σ H Q := h
theorem w_slL {a : Addr} {xs : List V} {lo hi : Option Int} (h : H a = some (.lst xs)) (q : ∀ p H', Same H H' → H p = none → H' p = some (.lst (cutV xs lo hi)) → Q (.ref p) H') : rSlL K (.ref a) lo hi H Q :=
  ⟨a, xs, rfl, SqL.of h, fun p hp => q p _ (same_upd hp) hp upd_same⟩
theorem w_noPart {Q : Option Int → Hp → Prop} (q : Q none H) : tNoPart σ H Q := q
theorem w_part {te : TE} {Q : Option Int → Hp → Prop} (h : te σ H fun x H' => ∃ i, x = .int i ∧ Q (some i) H') : tPart te σ H Q := h
theorem w_partI {R : Int → Prop} {i : Int} (h : R i) : ∃ j, V.int i = .int j ∧ R j := ⟨i, rfl, h⟩
theorem _root_.L2.SqL.same {a : Addr} {xs : List V} {H' : Hp} (h : SqL K H a xs) (s : Same H H') : SqL K H' a xs := by
  rcases h with h | h
  · rcases h with h | ⟨o, h⟩
    · exact .inl (.inl (s _ _ h))
    · exact .inl (.inr ⟨o, s _ _ h⟩)
  · exact .inr h
theorem cut_mem {xs : List V} {lo hi : Option Int} {x : V} (h : x ∈ cutV xs lo hi) : x ∈ xs := List.mem_of_mem_drop (List.mem_of_mem_take h)
end
theorem w_par3 {i j l : Nat} {ta : TA} {D : Ends} {σ : L2.St} {H : Hp} (h : ta σ H fun vs H1 => ∃ v1 v2 v3, vs = [v1, v2, v3] ∧ D.nx (((σ.set i (some v1)).set j (some v2)).set l (some v3)) H1) : tPar3 i j l ta D σ H := h
end Rd
namespace Nu
open PySem L2
theorem p70 : (2 ^ 70 : Nat) = 1180591620717411303424 := by decide
theorem ixN_nat {n : Nat} {r : Int} (h0 : 0 ≤ r) (h1 : r < n) : ixN n r = some r.toNat := by
  unfold ixN
  rw [if_pos h0, if_pos h1]
end Nu

set_option Elab.async false
set_option linter.all false
set_option maxRecDepth 100000
set_option autoImplicit false
set_option maxHeartbeats 4000000
/-! == and != by a text's own __eq__ -/
namespace Rd
open PySem PySem.Spec PyProof.Rows PySem.SeqAt L2
section
variable {prog : Program} {w : World} {A : Around} {E : Value → Shared → Prop} {s : Shared} {K : PySem.W.Frag} {x y C f : Addr} {ox oy : Obj} {od od' : Option Obj}
theorem ifBound_objNe {M : Model} {args : List Value} {Q : Option Value → Shared → Prop} (X : K.In s.heap) (I : PySem.W.InstAt s.heap x ox C od) (hs : PySem.W.findIn K (.ref C) "__ne__" = some (some (.builtin "object.__ne__")))
    (h : wpAny M A (call (.builtin "object.__ne__") (.ref x :: args)) (fun v => Q (some v)) E s) : wpAny M A (callSpecialIfBound? (.ref x) "__ne__" args) Q E s := by
  simp only [callSpecialIfBound?, bindSpecialIfBound?]
  refine wpAny_holding (wpAny_bind (wpAny_bind (wpAny_bind (I.type.here ((PySem.W.looks_findIn X hs).here ?_)))))
  refine wpAny_bind (wpAny_askSetting (wpAny_ite ?_))
  have fin : wpAny M A (call (.builtin "object.__ne__") ([.ref x] ++ args) >>= fun v => pure (some v)) Q E s := wpAny_bind (wpAny_mono h (fun v s' h' => wpAny_pure h') fun _ _ h' => h')
  split
  · exact wpAny_bind (wpAny_of_eq (F.cmp_object.ne.bind _) (wpAny_pure (by exact fin)))
  · exact wpAny_tryCatch (wpAny_bind (wpAny_of_eq (F.cmp_object.ne.bind _) (wpAny_pure (by exact fin))))
theorem objNe_own (X : K.In s.heap) (I : PySem.W.InstAt s.heap x ox C od) (hs : PySem.W.findIn K (.ref C) "__eq__" = some (some (.ref f))) (hf : PySem.W.isFn K (.ref f) = true) (hu : A.units < cLine) {Q : Fin → Shared → Prop}
    (hcall : wpAny (model prog w) A (call (.ref f) [.ref x, .ref y]) (fun v s' => ∃ b, v = .bool b ∧ Q (.done (.ret (.bool (!b)))) s') E s) :
    wpAny (model prog w) A (Builtin.«object.__ne__» ⟨[.ref x, .ref y], []⟩) Q E s := by
  obtain ⟨h, g, d, t, os⟩ := s
  unfold Builtin.«object.__ne__»
  repeat (first
    | with_reducible refine wpAny_cRoomFor hu ?_
    | (refine wpAny_bind (m := callSpecialIfBound? (.ref x) (Str.ofString "__eq__") [.ref y])
        (PySem.W.ifBound_K X I hs hf (wpAny_mono hcall (fun r s' hr => by
          obtain ⟨b, rfl, hq⟩ := hr
          repeat (first | exact hq | exact wpAny_pure hq | exact wpAny_truthy_bool hq | (refine wpAny_bind (m := truthy (.bool _)) (wpAny_truthy_bool ?_)) | wp_step)) fun _ _ e => e)))
    | wp_step)
theorem rcNe_own {Q : Value → Shared → Prop} (hu : A.units + 1 < cLine) (X : K.In s.heap) (I : PySem.W.InstAt s.heap x ox C od) (I' : PySem.W.InstAt s.heap y oy C od') (hm : PySem.W.mroIn K C (.type "object") = some true)
    (hn : PySem.W.findIn K (.ref C) "__ne__" = some (some (.builtin "object.__ne__"))) (hs : PySem.W.findIn K (.ref C) "__eq__" = some (some (.ref f))) (hf : PySem.W.isFn K (.ref f) = true)
    (hcall : wpAny (model prog w) A.in1 (call (.ref f) [.ref x, .ref y]) (fun v s' => ∃ b, v = .bool b ∧ Q (.bool (!b)) s') E s) :
    wpAny (model prog w) A (richCompare .NotEq (.ref x) (.ref y)) Q E s := by
  have one : wpAny (model prog w) A (tryCompare (.ref x) "__ne__" (.ref y)) (fun r s' => ∃ b, r = some (.bool b) ∧ Q (.bool b) s') E s := by
    unfold tryCompare
    refine wpAny_bind (ifBound_objNe X I hn (wpAny_call (codeAny_call_builtin F.cmp_object.ne.plain F.cmpEntry_ne (PySem.W.check_slot F.cmpKind_ne F.cmpSplit_ne (I.type.andThen (PySem.W.looks_mroIn X hm)) (F.cmpArgs_ne _ _)
      (objNe_own X I hs hf hu (wpAny_mono hcall (fun v s' hv => ?_) fun _ _ e => e))))))
    obtain ⟨b, rfl, hq⟩ := hv
    exact ⟨b, rfl, wpAny_pure ⟨_, rfl, hq⟩⟩
  simp only [richCompare, cmpInfo_NotEq, oneThing_ref]
  refine wpAny_holding (wpAny_bind (wpAny_cRoomFor (Nat.lt_of_succ_lt hu) ?_))
  refine wpAny_bind (I.type.here ?_)
  refine wpAny_bind (I'.type.here ?_)
  rw [if_neg (by simp)]
  refine wpAny_bind (wpAny_pure ?_)
  simp only [Bool.false_eq_true, if_false, Bool.not_false, if_true]
  refine wpAny_bind (m := tryCompare (.ref x) _ (.ref y)) (wpAny_mono one (fun r s1 z => ?_) fun _ _ e => e)
  obtain ⟨b, rfl, hq⟩ := z
  exact wpAny_pure hq
end
/-- what a class must have for == and != by its own __eq__ -/
structure EqC (K : PySem.W.Frag) (C : Addr) : Prop where
  hm : PySem.W.mroIn K C (.type "object") = some true
  hn : PySem.W.findIn K (.ref C) "__ne__" = some (some (.builtin "object.__ne__"))
def rOwn (C : Addr) (g : Bool → Bool) (sp : Sp) : R2 := fun x y H Q => ∃ a b dx dy fs gs, x = .ref a ∧ y = .ref b ∧ H a = some (.ins C dx fs) ∧ H b = some (.ins C dy gs) ∧ sp [.ref a, .ref b] H (fun v H' => ∃ k, v = .bl k ∧ Q (.bl (g k)) H') E0
section
variable {X : Cx} {k j : Nat} {C : Addr} {ps : List Str} {sp : Sp}
theorem op_eqOwn (h : KnM X.prog X.w X.K X.mg X.base CX0 k C "__eq__" ps sp) (hr : Room j X.A) (hj : k ≤ j := by decide) : OpR X (compareOp .Eq) (rOwn C id sp) := by
  obtain ⟨f, fd, M, b, F⟩ := h.ex
  intro pins s σ H x y v u Q I rx ry q
  obtain ⟨a, c, dx, dy, fs, gs, rfl, rfl, ha, hc, q⟩ := q
  cases rx
  cases ry
  obtain ⟨mA, J, _⟩ := ins_get I.hok ha
  obtain ⟨mB, J', _⟩ := ins_get I.hok hc
  obtain ⟨od, J, _⟩ := J.look
  obtain ⟨od', J', _⟩ := J'.look
  obtain ⟨m, hF⟩ := I.fr
  show wpAny (model X.prog X.w) X.A (richCompare .Eq (.ref a) (.ref c)) (EP X pins σ Q) X.xe s
  refine PySem.W.cmp_K (op := .Eq) (tb := .ref C) (hr.mono hj).units0 hF I.ok.mod.kin J J'.type (by simp [PySem.W.notFirst]) M.at_ M.fn ?_
  refine wpAny_mono (run_fn (us := [.ref a, .ref c]) (vs := [.ref a, .ref c]) F (hr.mono hj) b .nil pass0 I (.cons rfl (.cons rfl .nil)) q) (fun r s' z => ?_) fun _ _ e => e
  obtain ⟨z, H', I', rz, k', ez, hq⟩ := z
  subst ez
  cases rz
  exact ⟨.bl k', H', I', rfl, hq⟩
theorem op_neOwn (h : KnM X.prog X.w X.K X.mg X.base CX0 k C "__eq__" ps sp) (O : EqC X.K C) (hr : Room j X.A) (hj : k + 1 ≤ j := by decide) : OpR X (compareOp .NotEq) (rOwn C not sp) := by
  obtain ⟨f, fd, M, b, F⟩ := h.ex
  intro pins s σ H x y v u Q I rx ry q
  obtain ⟨a, c, dx, dy, fs, gs, rfl, rfl, ha, hc, q⟩ := q
  cases rx
  cases ry
  obtain ⟨mA, J, _⟩ := ins_get I.hok ha
  obtain ⟨mB, J', _⟩ := ins_get I.hok hc
  obtain ⟨od, J, _⟩ := J.look
  obtain ⟨od', J', _⟩ := J'.look
  have hr' : Room (k + 1) X.A := hr.mono hj
  show wpAny (model X.prog X.w) X.A (richCompare .NotEq (.ref a) (.ref c)) (EP X pins σ Q) X.xe s
  refine rcNe_own (by have := hr'.un; omega) I.kIn J J' O.hm O.hn M.at_ M.fn ?_
  have e0 : Env0 X.prog X.w X.K X.mg X.base X.A.in1 X.stack s H := by
    have e := I.env0
    exact ⟨e.frames, e.mod, e.bs, e.bsz, e.funs, e.frf, e.hok, e.bare⟩
  have hl := F.len _ _ _ _ q
  have r2 : Vals [V.ref a, V.ref c] [Value.ref a, Value.ref c] := .cons rfl (.cons rfl .nil)
  refine wpAny_call (codeAny_mono (F.run X.A.in1 X.stack s H ⟨[.ref a, .ref c], []⟩ [.ref a, .ref c] [.ref a, .ref c] _ E0 hr'.in1 e0 (by
    have := b s [.ref a, .ref c] I.kIn (by simpa using hl)
    simpa using this) r2 q) fun r s' hq => ?_)
  cases r with
  | error e => exact pass0 pins σ H s e s' I hq
  | ok fl =>
    cases fl with
    | ret w =>
      obtain ⟨z, H', I', rz, k', ez, hq2⟩ := I.after hq
      subst ez
      cases rz
      exact ⟨k', rfl, .bl (!k'), H', I', rfl, hq2⟩
    | next => exact False.elim hq
    | brk => exact False.elim hq
    | cont => exact False.elim hq
end
section
variable {C a b dx dy : Addr} {fs gs : List (Str × V)} {g : Bool → Bool} {sp : Sp} {H : Hp} {Q : VK}
theorem w_own (ha : H a = some (.ins C dx fs)) (hb : H b = some (.ins C dy gs)) (q : sp [.ref a, .ref b] H (fun v H' => ∃ k, v = .bl k ∧ Q (.bl (g k)) H') E0) : rOwn C g sp (.ref a) (.ref b) H Q :=
  ⟨a, b, dx, dy, fs, gs, rfl, rfl, ha, hb, q⟩
end
end Rd

set_option Elab.async false
set_option linter.all false
set_option maxRecDepth 100000
set_option autoImplicit false
set_option maxHeartbeats 4000000
/-! Own classes of exceptions over ArithmeticError, whose __init__ calls the base's and stores. -/
namespace Rd
open PySem PySem.Spec PyProof.Rows L2
abbrev aeMro : List Value := [.type "ArithmeticError", .type "Exception", .type "BaseException", .type "object"]
/-- what the text's class at C must have -/
structure AexC (K : PySem.W.Frag) (C : Addr) : Prop where
  made : PySem.W.excInitIn K C aeMro "ArithmeticError.__new__" = true
  over : PySem.W.excOver K C aeMro = true
  hdC : PySem.W.hasDictIn K C = true
  sa : PySem.W.findIn K (.ref C) "__setattr__" = some (some (.builtin "object.__setattr__"))
  exC : PySem.W.subIn K (.ref C) (.type "BaseException") = some true
  tyC : PySem.W.typeIn K (.ref C) = some (.type "type")
  kC : PySem.W.keepIn K (.ref C) = true
theorem aex_taker {K : PySem.W.Frag} {C : Addr} {f : Str} (n : PySem.W.findIn K (.ref C) f = some none) : PySem.W.takerIn K C f = some none := NoAttr.taker n
section
variable {X : Cx} {pins : List (Addr × Obj)} {σ : L2.St} {H : Hp} {s : Shared} {a C dx : Addr} {f : Str} {y : V} {u : Value} {fs : List (Str × V)} {Q : Unit → Shared → Prop} {E : Value → Shared → Prop} {A : Around}
theorem ast_new (T : AexC X.K C) (I : Inv X pins σ H s) (e : H a = some (exo a C none)) (hno : PySem.W.findIn X.K (.ref C) f = some none) (ry : RelV y u)
    (h : ∀ dx s', H dx = none → dx ≠ a → Inv X pins σ (upd (upd H a (exo a C (some dx))) dx (exd dx [(f, y)])) s' → Q () s') : wpAny (model X.prog X.w) A (setAttr (.ref a) f u) Q E s := by
  obtain ⟨t1, ho⟩ := exo_at I.hok e
  obtain ⟨cd, hc, hd'⟩ := PySem.W.any_some T.hdC
  obtain ⟨hp, g, d, t, os⟩ := s
  have an : a ≠ hp.objs.size := Nat.ne_of_lt (Heap.lt_size ho)
  refine PySem.W.set_plain I.kIn (ox := PySem.W.excObj C t1 none .none) (od := none) ⟨ho, rfl, rfl, trivial⟩ T.sa (PySem.W.osa_openX (od := none) PySem.F.store_ArithmeticError I.kIn ⟨ho, rfl, rfl, trivial⟩ T.over (aex_taker hno) fun b => ?_)
  refine wpAny_bind (wpAny_pure (wpAny_bind (PySem.W.instanceDict_exc (c2 := Value.none) ho (PySem.W.looks_clsIn I.kIn hc) hd' ?_)))
  refine PySem.HandSPX.store_in_new (dx := hp.objs.size) ?_ fun h' tk' hn hs => ?_
  · exact ⟨_, #[], _, (Heap.get?_update_ne _ _ _ _ an.symm).trans (Heap.get?_push_at rfl rfl), rfl, fun e he => absurd he (by simp), fun _ => rfl⟩
  · have hnd : H hp.objs.size = none := I.hok.fresh (Nat.le_refl _)
    have h1a : (hp.update a fun o => { o with dict := some hp.objs.size }).get? a = some (PySem.W.excObj C t1 (some hp.objs.size) .none) := Heap.get?_update_self _ ho rfl
    have J1 := I.write (t' := tk') (x := a) (e := a) (o := exo a C (some hp.objs.size)) (h' := hp.update a fun o => { o with dict := some hp.objs.size }) (by rw [e]; exact True.intro) (.inl rfl) (fun b o hb q => (Heap.get?_update_ne _ _ _ _ hb).trans q) ⟨_, h1a⟩ (exo_ok h1a)
    refine h hp.objs.size _ hnd an.symm (J1.laid (t' := tk') (a := hp.objs.size) (o := exd hp.objs.size [(f, y)]) (h' := h') (fun b o q => ?_) (by simp) (exd_ok hn (relO_put (fs := []) ry fun g => True.intro)))
    by_cases hb : b = a
    · subst hb
      refine (hs.2 _ an).trans ((Heap.get?_update_self _ (Heap.get?_push_of_some _ ho) rfl).trans ?_)
      exact h1a.symm.trans q
    · have q0 : hp.get? b = some o := (Heap.get?_update_ne _ _ _ _ hb).symm.trans q
      exact (hs.2 b (Nat.ne_of_lt (Heap.lt_size q0))).trans ((Heap.get?_update_ne _ _ _ _ hb).trans (Heap.get?_push_of_some _ q0))
theorem ast_old (T : AexC X.K C) (I : Inv X pins σ H s) (e : H a = some (exo a C (some dx))) (ed : H dx = some (exd dx fs)) (hl : fs.length ≤ 900) (hno : PySem.W.findIn X.K (.ref C) f = some none) (ry : RelV y u)
    (h : ∀ s', Inv X pins σ (upd H dx (exd dx ((f, y) :: fs))) s' → Q () s') : wpAny (model X.prog X.w) A (setAttr (.ref a) f u) Q E s := by
  obtain ⟨t1, ho⟩ := exo_at I.hok e
  obtain ⟨mA, hns, rel⟩ := exd_at I.hok ed
  have hw := within_of rel
  obtain ⟨cd, hc, hd'⟩ := PySem.W.any_some T.hdC
  obtain ⟨hp, g, d, t, os⟩ := s
  obtain ⟨oD, _, _, hoD, _, _⟩ := hns.count hw
  refine PySem.W.set_plain I.kIn (ox := PySem.W.excObj C t1 (some dx) .none) (od := some oD) ⟨ho, rfl, rfl, hoD⟩ T.sa (PySem.W.osa_openX (od := some oD) PySem.F.store_ArithmeticError I.kIn ⟨ho, rfl, rfl, hoD⟩ T.over (aex_taker hno) fun b => ?_)
  refine wpAny_bind (wpAny_pure (wpAny_bind (wpAny_bind (wpAny_loadPart ho (wpAny_bind ((PySem.W.looks_clsIn I.kIn hc).at ?_))))))
  rw [hd']
  refine wpAny_pure (a := some dx) (PySem.OEX.store_in_old hns hw (by rw [List.length_map]; omega) fun h' tk' hn hs => ?_)
  have hd : ∃ o, h'.get? dx = some o := by
    obtain ⟨o, _, _, e', _⟩ := hn
    exact ⟨o, e'⟩
  exact h _ (I.write (t' := tk') (x := dx) (e := dx) (o := exd dx ((f, y) :: fs)) (by rw [ed]; exact True.intro) (.inl rfl) (fun b o hb q => (hs.2 b hb).trans q) hd (exd_ok hn (relO_put ry rel)))
/-- the base's __init__: nothing of it is told -/
theorem ainit_ok {us : List Value} {Q : Value → Shared → Prop} (T : AexC X.K C) (I : Inv X pins σ H s) (e : H a = some (exo a C none)) (hl : us.length ≤ sizeLine) (h : ∀ s', Inv X pins σ H s' → Q .none s') :
    wpAny (model X.prog X.w) A (call (.builtin "ArithmeticError.__init__") (.ref a :: us)) Q E s := by
  obtain ⟨nm, N, q, bs, bm, hdct, sn, sub, ab, col, dd, k0, k1, k2, k3, k5, hC, hT⟩ := PySem.W.excInit_of I.kIn T.made
  obtain ⟨t1, ho⟩ := exo_at I.hok e
  obtain ⟨hp, g, d, t, os⟩ := s
  refine wpAny_call (PySem.HandSPX.init_base F.excBase_ArithmeticError hT hC ho hl fun h' t2 k hx => ?_)
  have J := I.write (t' := t) (x := a) (e := a) (o := exo a C none) (by rw [e]; exact True.intro) (.inl rfl) k ⟨_, hx⟩ (exo_ok hx)
  rw [show upd H a (exo a C none) = H from funext fun b => by by_cases hb : b = a <;> simp [upd, hb, e]] at J
  exact h _ J
end
end Rd
namespace Rd
open PySem PySem.Spec PyProof.Rows L2
theorem typ_AE : typeOf (.type "ArithmeticError") = pure (.type "type") := by kernel_rfl
/-- ArithmeticError.__init__(self, ..) -/
def tAI (K : PySem.W.Frag) (ta : TA) : TE := fun σ H Q => ta σ H fun vs H1 => ∃ (a C : Addr) (ws : List V), vs = .ref a :: ws ∧ ws.length ≤ 1000 ∧ AexC K C ∧ H1 a = some (exo a C none) ∧ Q .non H1
/-- self.f = e, self an exception that is being made -/
def tAst (K : PySem.W.Frag) (f : Str) (to te : TE) : TS := fun D σ H => te σ H fun y H1 => to σ H1 fun x H2 => ∃ a C : Addr, x = .ref a ∧ AexC K C ∧ PySem.W.findIn K (.ref C) f = some none ∧
  ((H2 a = some (exo a C none) ∧ ∀ dx, H2 dx = none → dx ≠ a → D.nx σ (upd (upd H2 a (exo a C (some dx))) dx (exd dx [(f, y)]))) ∨
    ∃ (dx : Addr) (fs : List (Str × V)), H2 a = some (exo a C (some dx)) ∧ H2 dx = some (exd dx fs) ∧ fs.length ≤ 900 ∧ D.nx σ (upd H2 dx (exd dx ((f, y) :: fs))))
section
variable {X : Cx} {o e : Expr} {es : List Expr} {to te : TE} {ta : TA} {f : Str} {p p' p1 p2 pos : Pos}
theorem pe_ainit {pl : Sem Bool} (hg : Gl X "ArithmeticError") (hm : X.mg "ArithmeticError" = none) (vV : PySem.W.findCls X.K (.type "ArithmeticError") (.type "type") "__init__" = some (.val (.builtin "ArithmeticError.__init__"))) (ha : PA X (e :: es) ta)
    (hc : eval (.Call (.Attribute (.Name "ArithmeticError" p1) "__init__" p2) (e :: es) [] pos) X.env = (do
      let ov ← eval (.Name "ArithmeticError" p1) X.env
      standAt p2.atName
      let (f, first) ← holding [ov] (getMethod ov "__init__" pl)
      callWith pos f first (backTo pos (starEach (e :: es) X.env)) (backToKw pos (keywordEach [] X.env))) := by rfl)
    (he : starEach (e :: es) X.env = (false, eval e X.env) :: starEach es X.env := by rfl) (hpl : (backTo pos (starEach es X.env)).any (·.1) = false := by rfl) :
    PE X (.Call (.Attribute (.Name "ArithmeticError" p1) "__init__" p2) (e :: es) [] pos) (tAI X.K ta) := by
  refine ⟨fun pins s σ H Q I h => PySem.W.methodCall_KW (ld_blt I hg hm PyProof.Rows.Boot.«ArithmeticError» ?_ (by decide) (by decide)) hc⟩
  obtain ⟨m, fr⟩ := I.fr
  refine PySem.W.method_type fr I.ok.mod.kin typ_AE (by decide +kernel) vV (by decide +kernel) ?_
  refine PyProof.Rows.callWith_method1 (thn (ha.run pos pins _ σ H _ (I.tok _) h) fun us s1 ⟨vs, H1, I1, r1, a, C, ws, ev, hl, T, ea, q⟩ => ?_) he hpl
  subst ev
  cases r1 with
  | @cons _ u0 _ ur ra rw' =>
    obtain rfl : u0 = Value.ref a := ra
    exact ainit_ok T I1 ea (by rw [← Paired.length rw', sizeLine_eq]; omega) fun s' J => ⟨.non, H1, J, rfl, q⟩
theorem ps_ast (ho : PE X o to) (he : PE X e te) (hs : swapsWith e (some (.Attribute o f p')) pos.line X.env = pure false := by rfl) : PS X (.Assign [.Attribute o f p'] e pos) (tAst X.K f to te) := by
  refine ⟨fun pins s σ H D I h => plainObj_wpAny_Assign_Attribute (thn (he.run pins s σ H _ I h) fun v s1 ⟨y, H1, I1, r1, q1⟩ => thn (ho.run pins s1 σ H1 _ I1 q1) fun u s2 ⟨x, H2, I2, r2, a, C, ex, T, hno, q⟩ => ?_) hs⟩
  subst ex
  obtain rfl : u = Value.ref a := r2
  rcases q with ⟨ea, q⟩ | ⟨dx, fs, ea, ed, hl, q⟩
  · exact ast_new T I2 ea hno r1 fun dx s' n ne J => ⟨σ, _, J, q dx n ne⟩
  · exact ast_old T I2 ea ed hl hno r1 fun s' J => ⟨σ, _, J, q⟩
/-- C(e, ..), C over ArithmeticError with its own __init__ -/
theorem pmk_aex {CX : CXT} {x : Str} {C fI : Addr} {k : Nat} {fd : FuncData} {ps : List Str} {sp : Sp} {ds : List Value} {dvs : List V} (T : AexC X.K C) (iC : PySem.W.findIn X.K (.ref C) "__init__" = some (some (.ref fI))) (tI : PySem.W.typeIn X.K (.ref fI) = some (.type "function"))
    (F1 : FnOk X.prog X.w X.K X.mg X.base CX k fI fd ps sp) (hr : Room (k + 1) X.A) (hb : Binds X.K fd ps ds) (hd : Vals dvs ds) (hx : Passes CX X (fun _ _ _ => False)) (hg : Gl X x) (hm : X.mg x = some (.ref C)) (ha : PA X (e :: es) ta)
    (hdb : (x == ("__debug__" : Str)) = false := by decide) (he : starEach (e :: es) X.env = (false, eval e X.env) :: starEach es X.env := by rfl) (hpl : (backTo pos (starEach es X.env)).any (·.1) = false := by rfl) :
    PMk X (.Call (.Name x p) (e :: es) [] pos) (tMkO C sp dvs ta) := by
  intro pins s σ H Q I h
  refine wpAny_Call_Name_kw (ld_glob I hg hm (PySem.W.callWith_K (h₀ := X.base) I.ok.mod.kin T.kC (thn (ha.run pos pins s σ H _ I h) fun us s1 ⟨vs, H1, I1, r1, hz, q1⟩ => ⟨I1.kIn, ?_⟩) he hpl) hdb)
  obtain ⟨nm, N, q, bs, bm, hdct, sn, sub, ab, col, dd, k0, k1, k2, k3, k5, hC, hT⟩ := PySem.W.excInit_of I1.kIn T.made
  show wpAny _ _ (call (.ref C) us) _ _ _
  obtain ⟨hp, g, dr, tk, os⟩ := s1
  have hsz : hp.objs.size ≤ hp.objs.size + 1 := Nat.le_succ _
  have hq := q1 (hp.objs.size + 1) (I1.hok.fresh hsz)
  have kk : ∀ b o, hp.get? b = some o → ((hp.push (PySem.W.kdv_tup us)).push (PySem.HandSPX.excO C hp.objs.size)).get? b = some o := fun b o z => Heap.get?_push_of_some _ (Heap.get?_push_of_some _ z)
  have I2 := I1.laid (t' := tk) (a := hp.objs.size + 1) (o := exo (hp.objs.size + 1) C none) (h' := (hp.push (PySem.W.kdv_tup us)).push (PySem.HandSPX.excO C hp.objs.size)) kk hsz (exo_ok (by heap_get))
  have r2 : Vals (V.ref (hp.objs.size + 1) :: (vs ++ dvs)) (Value.ref (hp.objs.size + 1) :: (us ++ ds)) := .cons rfl (r1.append hd)
  have hl : (Value.ref (hp.objs.size + 1) :: us ++ ds).length = ps.length := (r2.length.symm.trans (F1.len _ _ _ _ hq))
  refine wpAny_call (PySem.HandSPX.call_own F.excBase_ArithmeticError hT hC (PySem.W.looks_findIn I1.kIn iC) (fun self => PySem.W.bind_fn I1.kIn self tI) (by rw [← Paired.length r1, sizeLine_eq]; omega)
    (codeAny_mono (F1.run _ X.stack _ _ ⟨Value.ref (hp.objs.size + 1) :: us, []⟩ (Value.ref (hp.objs.size + 1) :: (us ++ ds)) _ _ (fun _ _ _ => False) (hr.make C us []) (I2.env0.make C us []) (hb _ (Value.ref (hp.objs.size + 1) :: us) I2.kIn hl) r2 hq) fun r s' hq' => ?_))
  match r, hq' with
  | .error er, hq' => exact hx pins σ _ _ er s' I2 hq'
  | .ok (.ret u), hq' =>
    obtain ⟨v, H2, os2, bare2, un2, hok2, rv, ev, d, fs, ea, ed, hd1, q2⟩ := hq'
    subst ev
    obtain ⟨h2, g2, d2, t2, os'⟩ := s'
    exact ⟨rv, mk_end (raises_own T.exC T.tyC) I1 hsz kk un2 hok2 os2 bare2 ea ed hd1 q2⟩
  | .ok .next, hq' => exact False.elim hq'
  | .ok .brk, hq' => exact False.elim hq'
  | .ok .cont, hq' => exact False.elim hq'
end
end Rd

set_option Elab.async false
set_option linter.all false
set_option maxRecDepth 100000
set_option autoImplicit false
set_option maxHeartbeats 4000000
/-! Thrown(value): its own __init__, raised, caught, its field read. -/
namespace Rd
open PySem PySem.Spec PyProof.Rows L2
/-- a statement, an expression that is never reached -/
theorem pe_never {X : Cx} {e : Expr} : PE X e (fun _ _ _ => False) := ⟨fun _ _ _ _ _ _ h => h.elim⟩
def thrFs (v : V) : List (Str × V) := [("level", .int 1), ("value", v)]
def spThr (C : Addr) : Sp := fun vs H Q _ => ∃ x v, vs = [.ref x, v, .int 1] ∧ H x = some (exo x C none) ∧
  ∀ d, H d = none → d ≠ x → Q .non (upd (upd (upd H x (exo x C (some d))) d (exd d [("value", v)])) d (exd d (thrFs v)))
/-- the class Thrown -/
structure KnTh (P : Program) (w : World) (K : PySem.W.Frag) (mg : Str → Option Value) (base : Heap) (C : Addr) : Prop where
  ex : ∃ f fd ds, mg "Thrown" = some (.ref C) ∧ AexC K C ∧ PySem.W.findIn K (.ref C) "__init__" = some (some (.ref f)) ∧ PySem.W.typeIn K (.ref f) = some (.type "function") ∧ Vals [V.int 1] ds ∧
    Binds K fd ["self", "value", "level"] ds ∧ FnOk P w K mg base CX0 1 f fd ["self", "value", "level"] (spThr C)
def tThr (C : Addr) (ta : TA) (W : WX) : TS := fun _ σ H => tMkO C (spThr C) [.int 1] ta σ H fun cls d H' => W cls d σ H'
section
variable {X : Cx} {C : Addr} {j : Nat} {a : Expr} {es : List Expr} {ta : TA} {p pos pos2 : Pos} {W : WX} {x : Str} {ps : List Str} {sp : Sp} {k : Nat}
theorem ps_thr (hc : X.calm = true) (h : KnTh X.prog X.w X.K X.mg X.base C) (hr : Room j X.A) (tk : Takes X W) (ha : PA X [a] ta) (hj : 2 ≤ j := by decide) (hg : Gl X "Thrown" := by rfl)
    (he : starEach (a :: []) X.env = (false, eval a X.env) :: starEach [] X.env := by rfl) (hpl : (backTo pos (starEach [] X.env)).any (·.1) = false := by rfl) :
    PS X (.Raise (some (.Call (.Name "Thrown" p) [a] [] pos)) none pos2) (tThr C ta W) := by
  obtain ⟨f, fd, ds, m, T, iC, tI, hd, hb, F⟩ := h.ex
  exact ps_raise hc tk (pmk_aex T iC tI F (hr.mono hj) hb hd pass0 hg m ha (by decide) he hpl)
/-- f(e, ..), f may raise -/
theorem pkX (h : Kn X.prog X.w X.K X.mg X.base (L2.CX X.prog X.w) k x ps sp) (hr : Room j X.A) (tk : Takes X W) (ha : PA X (a :: es) ta) (hj : k ≤ j := by decide) (hg : Gl X x := by rfl) (hdb : (x == ("__debug__" : Str)) = false := by decide)
    (he : starEach (a :: es) X.env = (false, eval a X.env) :: starEach es X.env := by rfl) (hpl : (backTo pos (starEach es X.env)).any (·.1) = false := by rfl) : PE X (.Call (.Name x p) (a :: es) [] pos) (tCallS sp (WE W) ta) := by
  obtain ⟨f, fd, m, kp, b, F⟩ := h.ex
  exact pe_callS F (hr.mono hj) hg m kp b (fun σ => passAt tk σ) ha hdb he hpl
end
section
variable {σ : L2.St} {H : Hp} {C : Addr} {W : WX} {D : Ends}
def MkOK (C : Addr) (sp : Sp) (dvs vs : List V) (H1 : Hp) (Q : XK) : Prop := vs.length ≤ 1000 ∧ ∀ a, H1 a = none → sp (.ref a :: (vs ++ dvs)) (upd H1 a (exo a C none))
  (fun v H2 => v = .non ∧ ∃ (d : Addr) (fs : List (Str × V)), H2 a = some (exo a C (some d)) ∧ H2 d = some (exd d fs) ∧ H1 d = none ∧ Q (.ref C) (some d) (upd (del H2 a) d (.xd fs))) (fun _ _ _ => False)
theorem w_thr {ta : TA} (h : ta σ H fun vs H1 => MkOK C (spThr C) [.int 1] vs H1 fun cls d H' => W cls d σ H') : tThr C ta W D σ H := h
theorem w_thrI {v : V} {Q : XK} (q : ∀ d H', Same H H' → H d = none → H' d = some (.xd (thrFs v)) → Q (.ref C) (some d) H') : MkOK C (spThr C) [.int 1] [v] H Q := by
  refine ⟨by show 1 ≤ 1000; decide, fun a ha => ⟨a, v, rfl, upd_same, fun d hd hda => ?_⟩⟩
  rw [upd_ne hda] at hd
  refine ⟨rfl, d, thrFs v, ?_, upd_same, hd, q d _ (fun b o e => ?_) hd upd_same⟩
  · rw [upd_ne (Ne.symm hda), upd_ne (Ne.symm hda), upd_same]
  · have ba : b ≠ a := ne_of_none e ha
    have bd : b ≠ d := ne_of_none e hd
    rw [upd_ne bd, del_ne ba, upd_ne bd, upd_ne bd, upd_ne ba, upd_ne ba]
    exact e
theorem w_callS {sp : Sp} {t : TA} {E : L2.St → XK} {Q : VK} (h : t σ H fun vs H1 => sp vs H1 Q (E σ)) : tCallS sp E t σ H Q := h
end
end Rd

set_option Elab.async false
set_option linter.all false
set_option maxRecDepth 100000
set_option autoImplicit false
set_option maxHeartbeats 4000000
/-! InvalidArgument(part): over an own class without an __init__, which calls that class's __init__ (the builtin one). -/
namespace Rd
open PySem PySem.Spec PyProof.Rows L2
/-- what the own class LuaError must have -/
structure LErrC (K : PySem.W.Frag) (C : Addr) : Prop where
  rd : PySem.W.readsIn K C (.type "type") = true
  ga : PySem.W.specialIn K (.ref C) "__getattribute__" = some (some (.builtin "type.__getattribute__"))
  ty : PySem.W.typeIn K (.ref C) = some (.type "type")
  vi : PySem.W.findCls K (.ref C) (.type "type") "__init__" = some (.val (.builtin "ArithmeticError.__init__"))
section
variable {X : Cx} {o e : Expr} {es : List Expr} {to te : TE} {ta : TA} {f x : Str} {CL : Addr} {p p' p1 p2 pos : Pos}
theorem pe_linit {pl : Sem Bool} (hg : Gl X x) (hm : X.mg x = some (.ref CL)) (L : LErrC X.K CL) (ha : PA X (e :: es) ta) (hdb : (x == ("__debug__" : Str)) = false := by decide)
    (hc : eval (.Call (.Attribute (.Name x p1) "__init__" p2) (e :: es) [] pos) X.env = (do
      let ov ← eval (.Name x p1) X.env
      standAt p2.atName
      let (f, first) ← holding [ov] (getMethod ov "__init__" pl)
      callWith pos f first (backTo pos (starEach (e :: es) X.env)) (backToKw pos (keywordEach [] X.env))) := by rfl)
    (he : starEach (e :: es) X.env = (false, eval e X.env) :: starEach es X.env := by rfl) (hpl : (backTo pos (starEach es X.env)).any (·.1) = false := by rfl) :
    PE X (.Call (.Attribute (.Name x p1) "__init__" p2) (e :: es) [] pos) (tAI X.K ta) := by
  refine ⟨fun pins s σ H Q I h => PySem.W.methodCall_KW (ld_glob I hg hm ?_ hdb) hc⟩
  obtain ⟨m, fr⟩ := I.fr
  refine PySem.W.method_of_cls fr I.ok.mod.kin L.ga (PySem.W.cls_val fr I.ok.mod.kin L.ty L.rd L.vi (by decide +kernel) ?_)
  refine PyProof.Rows.callWith_method1 (thn (ha.run pos pins _ σ H _ (I.tok _) h) fun us s1 ⟨vs, H1, I1, r1, a, C, ws, ev, hl, T, ea, q⟩ => ?_) he hpl
  subst ev
  cases r1 with
  | @cons _ u0 _ ur ra rw' =>
    obtain rfl : u0 = Value.ref a := ra
    exact ainit_ok T I1 ea (by rw [← Paired.length rw', sizeLine_eq]; omega) fun s' J => ⟨.non, H1, J, rfl, q⟩
end
def parFs (v : V) : List (Str × V) := [("part", v)]
def spInv (C : Addr) : Sp := fun vs H Q _ => ∃ x v, vs = [.ref x, v] ∧ H x = some (exo x C none) ∧ ∀ d, H d = none → d ≠ x → Q .non (upd (upd H x (exo x C (some d))) d (exd d (parFs v)))
/-- the class InvalidArgument -/
structure KnIA (P : Program) (w : World) (K : PySem.W.Frag) (mg : Str → Option Value) (base : Heap) (C : Addr) : Prop where
  ex : ∃ f fd, mg "InvalidArgument" = some (.ref C) ∧ AexC K C ∧ PySem.W.findIn K (.ref C) "__init__" = some (some (.ref f)) ∧ PySem.W.typeIn K (.ref f) = some (.type "function") ∧
    Binds K fd ["self", "part"] [] ∧ FnOk P w K mg base CX0 1 f fd ["self", "part"] (spInv C)
def tInv (C : Addr) (ta : TA) (W : WX) : TS := fun _ σ H => tMkO C (spInv C) [] ta σ H fun cls d H' => W cls d σ H'
section
variable {X : Cx} {C : Addr} {j : Nat} {a : Expr} {es : List Expr} {ta : TA} {p pos pos2 : Pos} {W : WX}
theorem ps_inv (hc : X.calm = true) (h : KnIA X.prog X.w X.K X.mg X.base C) (hr : Room j X.A) (tk : Takes X W) (ha : PA X [a] ta) (hj : 2 ≤ j := by decide) (hg : Gl X "InvalidArgument" := by rfl)
    (he : starEach (a :: []) X.env = (false, eval a X.env) :: starEach [] X.env := by rfl) (hpl : (backTo pos (starEach [] X.env)).any (·.1) = false := by rfl) :
    PS X (.Raise (some (.Call (.Name "InvalidArgument" p) [a] [] pos)) none pos2) (tInv C ta W) := by
  obtain ⟨f, fd, m, T, iC, tI, hb, F⟩ := h.ex
  exact ps_raise hc tk (pmk_aex T iC tI F (hr.mono hj) hb .nil pass0 hg m ha (by decide) he hpl)
end
section
variable {σ : L2.St} {H : Hp} {C : Addr} {W : WX} {D : Ends}
theorem w_inv {ta : TA} (h : ta σ H fun vs H1 => MkOK C (spInv C) [] vs H1 fun cls d H' => W cls d σ H') : tInv C ta W D σ H := h
theorem w_invI {v : V} {Q : XK} (q : ∀ d H', Same H H' → H d = none → H' d = some (.xd (parFs v)) → Q (.ref C) (some d) H') : MkOK C (spInv C) [] [v] H Q := by
  refine ⟨by show 1 ≤ 1000; decide, fun a ha => ⟨a, v, rfl, upd_same, fun d hd hda => ?_⟩⟩
  rw [upd_ne hda] at hd
  refine ⟨rfl, d, parFs v, ?_, upd_same, hd, q d _ (fun b o e => ?_) hd upd_same⟩
  · rw [upd_ne (Ne.symm hda), upd_same]
  · have ba : b ≠ a := ne_of_none e ha
    have bd : b ≠ d := ne_of_none e hd
    rw [upd_ne bd, del_ne ba, upd_ne bd, upd_ne ba, upd_ne ba]
    exact e
theorem par_part (v : V) : (parFs v).lookup ("part" : Str) = some v := by simp [parFs, List.lookup]
end
end Rd

set_option Elab.async false
set_option linter.all false
set_option maxRecDepth 100000
set_option autoImplicit false
set_option maxHeartbeats 4000000
/-! a def that a local holds, called; it may raise -/
namespace Rd
open PySem PySem.Spec PyProof.Rows L2
structure CalX (P : Program) (w : World) (K : PySem.W.Frag) (mg : Str → Option Value) (base : Heap) (k : Nat) (f : Addr) (sp : Sp) : Prop where
  ex : ∃ (fd : FuncData) (ps : List Str), FnOk P w K mg base (L2.CX P w) k f fd ps sp ∧ PySem.W.keepIn K (.ref f) = true ∧ Binds K fd ps []
def tCallVX (i : Nat) (R : Addr → Sp → Prop) (E : L2.St → XK) (t : TA) : TE := fun σ H Q => ∃ f sp, σ[i]? = some (some (.ref f)) ∧ R f sp ∧ t σ H fun vs H1 => sp vs H1 Q (E σ)
theorem pe_cvX {X : Cx} {i j k : Nat} {x : Str} {R : Addr → Sp → Prop} {W : WX} {p pos : Pos} {e : Expr} {es : List Expr} {t : TA} (hR : ∀ f sp, R f sp → CalX X.prog X.w X.K X.mg X.base k f sp) (hr : Room j X.A) (tk : Takes X W) (hN : X.N[i]? = some x) (hv : Vis X.env.scope x) (ha : PA X (e :: es) t) (hj : k ≤ j := by decide)
    (hd : (x == ("__debug__" : Str)) = false := by decide) (hcd : (x == ("__classdict__" : Str)) = false := by decide)
    (he : starEach (e :: es) X.env = (false, eval e X.env) :: starEach es X.env := by rfl) (hpl : (backTo pos (starEach es X.env)).any (·.1) = false := by rfl) :
    PE X (.Call (.Name x p) (e :: es) [] pos) (tCallVX i R (WE W) t) := by
  refine ⟨fun pins s σ H Q I h => ?_⟩
  obtain ⟨f, sp, hs, hf, ht⟩ := h
  obtain ⟨fd, ps, F, kp, b⟩ := (hR f sp hf).ex
  refine wpAny_Call_Name_kw (thn ((pe_var (pos := p) hN hv hd hcd).run pins s σ H (fun v H1 => v = .ref f ∧ H1 = H) I ⟨.ref f, hs, rfl, rfl⟩) fun u s1 ⟨v, H1, I1, r1, q1⟩ => ?_)
  obtain ⟨rfl, rfl⟩ := q1
  cases r1
  refine PySem.W.callWith_K (h₀ := X.base) I.ok.mod.kin kp (thn (ha.run pos pins s1 σ _ _ I1 ht) fun us s2 ⟨vs, H2, I2, r, q⟩ => ⟨I2.kIn, ?_⟩) he hpl
  exact run_fnS F (hr.mono hj) b (passAt tk σ) I2 r q
end Rd

set_option Elab.async false
set_option linter.all false
set_option maxRecDepth 100000
set_option autoImplicit false
set_option maxHeartbeats 4000000
/-! == and != by a text's own __eq__ that answers NotImplemented -/
namespace Rd
open PySem PySem.Spec PyProof.Rows PySem.SeqAt L2
/-! ### builtin kinds decline an instance -/
section
variable {prog : Program} {w : World} {A : Around} {E : Value → Shared → Prop} {s : Shared} {K : PySem.W.Frag} {x C dx : Addr} {Q : Value → Shared → Prop}
theorem int_eq_inst (b : Int) (u : Tok) (hl : s.heap.get? x = some (PySem.W.instObj C dx)) {Q : Fin → Shared → Prop} (h : Q (.done (.ret .notImplemented)) s) : wpAny (model prog w) A (Builtin.«int.__eq__» ⟨[.int b u, .ref x], []⟩) Q E s := by
  obtain ⟨hp, g, d, tk, os⟩ := s
  wp_walk using wpAny_loadPart' hl, wpAny_load hl
  exact h
theorem int_ne_inst (b : Int) (u : Tok) (hl : s.heap.get? x = some (PySem.W.instObj C dx)) {Q : Fin → Shared → Prop} (h : Q (.done (.ret .notImplemented)) s) : wpAny (model prog w) A (Builtin.«int.__ne__» ⟨[.int b u, .ref x], []⟩) Q E s := by
  obtain ⟨hp, g, d, tk, os⟩ := s
  wp_walk using wpAny_loadPart' hl, wpAny_load hl
  exact h
theorem str_eq_inst (b : Str) (u : Tok) (hl : s.heap.get? x = some (PySem.W.instObj C dx)) {Q : Fin → Shared → Prop} (h : Q (.done (.ret .notImplemented)) s) : wpAny (model prog w) A (Builtin.«str.__eq__» ⟨[.str b u, .ref x], []⟩) Q E s := by
  obtain ⟨hp, g, d, tk, os⟩ := s
  wp_walk using wpAny_loadPart' hl, wpAny_load hl
  exact h
theorem str_ne_inst (b : Str) (u : Tok) (hl : s.heap.get? x = some (PySem.W.instObj C dx)) {Q : Fin → Shared → Prop} (h : Q (.done (.ret .notImplemented)) s) : wpAny (model prog w) A (Builtin.«str.__ne__» ⟨[.str b u, .ref x], []⟩) Q E s := by
  obtain ⟨hp, g, d, tk, os⟩ := s
  wp_walk using wpAny_loadPart' hl, wpAny_load hl
  exact h
theorem isInst_no {T : String} {od : Option Obj} {ox : Obj} (X : K.In s.heap) (I : PySem.W.InstAt s.heap x ox C od) (hs : PySem.W.subIn K (.ref C) (.type T) = some false) {Q : Bool → Shared → Prop} (h : Q false s) : wpAny (model prog w) A (isInstance (.ref x) (.type T)) Q E s := by
  unfold isInstance
  exact wpAny_bind (I.type.here ((PySem.W.looks_subIn X hs).here h))
theorem list_eq_inst {l : Addr} {items : Array Value} {n : Nat} {dd : Option Addr} {sl : Array (Option Value)} {od : Option Obj} {ox : Obj} (X : K.In s.heap) (I : PySem.W.InstAt s.heap x ox C od) (hs : PySem.W.subIn K (.ref C) (.type "list") = some false)
    (hl : s.heap.get? l = some { cls := .type "list", dict := dd, data := .seq items n, slots := sl }) {Q : Fin → Shared → Prop} (h : Q (.done (.ret .notImplemented)) s) : wpAny (model prog w) A (Builtin.«list.__eq__» ⟨[.ref l, .ref x], []⟩) Q E s := by
  obtain ⟨hp, g, d, tk, os⟩ := s
  repeat (first | (with_reducible refine isInst_no X I hs ?_) | wp_step)
  exact h
theorem list_ne_inst {l : Addr} {items : Array Value} {n : Nat} {dd : Option Addr} {sl : Array (Option Value)} {od : Option Obj} {ox : Obj} (X : K.In s.heap) (I : PySem.W.InstAt s.heap x ox C od) (hs : PySem.W.subIn K (.ref C) (.type "list") = some false)
    (hl : s.heap.get? l = some { cls := .type "list", dict := dd, data := .seq items n, slots := sl }) {Q : Fin → Shared → Prop} (h : Q (.done (.ret .notImplemented)) s) : wpAny (model prog w) A (Builtin.«list.__ne__» ⟨[.ref l, .ref x], []⟩) Q E s := by
  obtain ⟨hp, g, d, tk, os⟩ := s
  repeat (first | (with_reducible refine isInst_no X I hs ?_) | wp_step)
  exact h
theorem tuple_eq_inst {l : Addr} {items : Array Value} {n : Nat} {dd : Option Addr} {sl : Array (Option Value)} {od : Option Obj} {ox : Obj} (X : K.In s.heap) (I : PySem.W.InstAt s.heap x ox C od) (hs : PySem.W.subIn K (.ref C) (.type "tuple") = some false)
    (hl : s.heap.get? l = some { cls := .type "tuple", dict := dd, data := .seq items n, slots := sl }) {Q : Fin → Shared → Prop} (h : Q (.done (.ret .notImplemented)) s) : wpAny (model prog w) A (Builtin.«tuple.__eq__» ⟨[.ref l, .ref x], []⟩) Q E s := by
  obtain ⟨hp, g, d, tk, os⟩ := s
  repeat (first | (with_reducible refine isInst_no X I hs ?_) | wp_step)
  exact h
theorem tuple_ne_inst {l : Addr} {items : Array Value} {n : Nat} {dd : Option Addr} {sl : Array (Option Value)} {od : Option Obj} {ox : Obj} (X : K.In s.heap) (I : PySem.W.InstAt s.heap x ox C od) (hs : PySem.W.subIn K (.ref C) (.type "tuple") = some false)
    (hl : s.heap.get? l = some { cls := .type "tuple", dict := dd, data := .seq items n, slots := sl }) {Q : Fin → Shared → Prop} (h : Q (.done (.ret .notImplemented)) s) : wpAny (model prog w) A (Builtin.«tuple.__ne__» ⟨[.ref l, .ref x], []⟩) Q E s := by
  obtain ⟨hp, g, d, tk, os⟩ := s
  repeat (first | (with_reducible refine isInst_no X I hs ?_) | wp_step)
  exact h
/-- what declines: its own comparison with the instance -/
theorem dec_none : wpAny (model prog w) A (tryCompare .none "__eq__" (.ref x)) (fun r s' => r = none ∧ s' = s) E s :=
  wpAny_tryCompare_declines (show s.TypeIs .none "NoneType" from rfl) F.slot_NoneType_eq_refl (call_gives F.slot_NoneType_eq_refl rfl F.entry_NoneType_eq (F.args_NoneType_eq_2 _ _) (NoneType___eq___none_ref_0 x) ⟨rfl, rfl, rfl⟩)
theorem dec_none' : wpAny (model prog w) A (tryCompare .none "__ne__" (.ref x)) (fun r s' => r = none ∧ s' = s) E s :=
  wpAny_tryCompare_declines (show s.TypeIs .none "NoneType" from rfl) F.slot_NoneType_ne_refl (call_gives F.slot_NoneType_ne_refl rfl F.entry_NoneType_ne (F.args_NoneType_ne_2 _ _) (NoneType___ne___none_ref_0 x) ⟨rfl, rfl, rfl⟩)
theorem dec_int (b : Int) (u : Tok) (hl : s.heap.get? x = some (PySem.W.instObj C dx)) : wpAny (model prog w) A (tryCompare (.int b u) "__eq__" (.ref x)) (fun r s' => r = none ∧ s' = s) E s :=
  wpAny_tryCompare_declines (show s.TypeIs (.int b u) "int" from rfl) F.slot_int_eq_refl (GQ.call_here F.slot_int_eq_refl rfl F.entry_int_eq (F.args_int_eq_2 _ _) (int_eq_inst b u hl ⟨rfl, rfl, rfl⟩))
theorem dec_int' (b : Int) (u : Tok) (hl : s.heap.get? x = some (PySem.W.instObj C dx)) : wpAny (model prog w) A (tryCompare (.int b u) "__ne__" (.ref x)) (fun r s' => r = none ∧ s' = s) E s :=
  wpAny_tryCompare_declines (show s.TypeIs (.int b u) "int" from rfl) F.slot_int_ne_refl (GQ.call_here F.slot_int_ne_refl rfl F.entry_int_ne (F.args_int_ne_2 _ _) (int_ne_inst b u hl ⟨rfl, rfl, rfl⟩))
theorem dec_str (b : Str) (u : Tok) (hl : s.heap.get? x = some (PySem.W.instObj C dx)) : wpAny (model prog w) A (tryCompare (.str b u) "__eq__" (.ref x)) (fun r s' => r = none ∧ s' = s) E s :=
  wpAny_tryCompare_declines (show s.TypeIs (.str b u) "str" from rfl) F.slot_str_eq_refl (GQ.call_here F.slot_str_eq_refl rfl F.entry_str_eq (F.args_str_eq_2 _ _) (str_eq_inst b u hl ⟨rfl, rfl, rfl⟩))
theorem dec_str' (b : Str) (u : Tok) (hl : s.heap.get? x = some (PySem.W.instObj C dx)) : wpAny (model prog w) A (tryCompare (.str b u) "__ne__" (.ref x)) (fun r s' => r = none ∧ s' = s) E s :=
  wpAny_tryCompare_declines (show s.TypeIs (.str b u) "str" from rfl) F.slot_str_ne_refl (GQ.call_here F.slot_str_ne_refl rfl F.entry_str_ne (F.args_str_ne_2 _ _) (str_ne_inst b u hl ⟨rfl, rfl, rfl⟩))
theorem dec_list {l : Addr} {items : Array Value} {n : Nat} {dd : Option Addr} {sl : Array (Option Value)} {od : Option Obj} {ox : Obj} (X : K.In s.heap) (I : PySem.W.InstAt s.heap x ox C od) (hs : PySem.W.subIn K (.ref C) (.type "list") = some false)
    (hl : s.heap.get? l = some { cls := .type "list", dict := dd, data := .seq items n, slots := sl }) : wpAny (model prog w) A (tryCompare (.ref l) "__eq__" (.ref x)) (fun r s' => r = none ∧ s' = s) E s :=
  wpAny_tryCompare_declines (T := "list") ⟨_, hl, rfl⟩ F.slot_list_eq_refl (GQ.call_here F.slot_list_eq_refl ⟨_, hl, rfl⟩ F.entry_list_eq (F.args_list_eq_2 _ _) (list_eq_inst X I hs hl ⟨rfl, rfl, rfl⟩))
theorem dec_list' {l : Addr} {items : Array Value} {n : Nat} {dd : Option Addr} {sl : Array (Option Value)} {od : Option Obj} {ox : Obj} (X : K.In s.heap) (I : PySem.W.InstAt s.heap x ox C od) (hs : PySem.W.subIn K (.ref C) (.type "list") = some false)
    (hl : s.heap.get? l = some { cls := .type "list", dict := dd, data := .seq items n, slots := sl }) : wpAny (model prog w) A (tryCompare (.ref l) "__ne__" (.ref x)) (fun r s' => r = none ∧ s' = s) E s :=
  wpAny_tryCompare_declines (T := "list") ⟨_, hl, rfl⟩ F.slot_list_ne_refl (GQ.call_here F.slot_list_ne_refl ⟨_, hl, rfl⟩ F.entry_list_ne (F.args_list_ne_2 _ _) (list_ne_inst X I hs hl ⟨rfl, rfl, rfl⟩))
theorem dec_tuple {l : Addr} {items : Array Value} {n : Nat} {dd : Option Addr} {sl : Array (Option Value)} {od : Option Obj} {ox : Obj} (X : K.In s.heap) (I : PySem.W.InstAt s.heap x ox C od) (hs : PySem.W.subIn K (.ref C) (.type "tuple") = some false)
    (hl : s.heap.get? l = some { cls := .type "tuple", dict := dd, data := .seq items n, slots := sl }) : wpAny (model prog w) A (tryCompare (.ref l) "__eq__" (.ref x)) (fun r s' => r = none ∧ s' = s) E s :=
  wpAny_tryCompare_declines (T := "tuple") ⟨_, hl, rfl⟩ F.slot_tuple_eq_refl (GQ.call_here F.slot_tuple_eq_refl ⟨_, hl, rfl⟩ F.entry_tuple_eq (F.args_tuple_eq_2 _ _) (tuple_eq_inst X I hs hl ⟨rfl, rfl, rfl⟩))
theorem dec_tuple' {l : Addr} {items : Array Value} {n : Nat} {dd : Option Addr} {sl : Array (Option Value)} {od : Option Obj} {ox : Obj} (X : K.In s.heap) (I : PySem.W.InstAt s.heap x ox C od) (hs : PySem.W.subIn K (.ref C) (.type "tuple") = some false)
    (hl : s.heap.get? l = some { cls := .type "tuple", dict := dd, data := .seq items n, slots := sl }) : wpAny (model prog w) A (tryCompare (.ref l) "__ne__" (.ref x)) (fun r s' => r = none ∧ s' = s) E s :=
  wpAny_tryCompare_declines (T := "tuple") ⟨_, hl, rfl⟩ F.slot_tuple_ne_refl (GQ.call_here F.slot_tuple_ne_refl ⟨_, hl, rfl⟩ F.entry_tuple_ne (F.args_tuple_ne_2 _ _) (tuple_ne_inst X I hs hl ⟨rfl, rfl, rfl⟩))
theorem rcEq_ni {f : Addr} {u : Value} {Tb : String} {ox : Obj} {od : Option Obj} (hu : A.units < cLine) (X : K.In s.heap) (I : PySem.W.InstAt s.heap x ox C od) (hb : s.TypeIs u Tb) (hsub : PySem.W.subIn K (.type Tb) (.ref C) = some false)
    (hs : PySem.W.findIn K (.ref C) "__eq__" = some (some (.ref f))) (hf : PySem.W.isFn K (.ref f) = true)
    (hcall : wpAny (model prog w) A (call (.ref f) [.ref x, u]) (fun v s1 => v = .notImplemented ∧ wpAny (model prog w) A (tryCompare u "__eq__" (.ref x)) (fun r s2 => r = none ∧ s2 = s1) E s1 ∧ wpAny (model prog w) A (isSame (.ref x) u) (fun b s3 => b = false ∧ Q (.bool false) s3) E s1) E s) :
    wpAny (model prog w) A (richCompare .Eq (.ref x) u) Q E s := by
  have one : wpAny (model prog w) A (tryCompare (.ref x) "__eq__" u) (fun r s1 => r = none ∧ wpAny (model prog w) A (tryCompare u "__eq__" (.ref x)) (fun r s2 => r = none ∧ s2 = s1) E s1 ∧ wpAny (model prog w) A (isSame (.ref x) u) (fun b s3 => b = false ∧ Q (.bool false) s3) E s1) E s := by
    unfold tryCompare
    refine wpAny_bind (PySem.W.ifBound_K X I hs hf (wpAny_mono hcall (fun v s1 hv => ?_) fun _ _ e => e))
    obtain ⟨rfl, h1, h2⟩ := hv
    exact wpAny_pure ⟨rfl, h1, h2⟩
  simp only [richCompare, cmpInfo_Eq, oneThing_ref]
  refine wpAny_holding (wpAny_bind (wpAny_cRoomFor hu ?_))
  refine wpAny_bind (I.type.here ?_)
  refine wpAny_bind (wpAny_typeOf hb ?_)
  split
  · refine wpAny_bind ((PySem.W.looks_subIn X hsub).here ?_)
    simp only [Bool.false_eq_true, if_false, Bool.not_false, if_true]
    refine wpAny_bind (m := tryCompare (.ref x) _ u) (wpAny_mono one (fun r s1 z => ?_) fun _ _ e => e)
    obtain ⟨rfl, h1, h2⟩ := z
    refine wpAny_bind (m := tryCompare u _ (.ref x)) (wpAny_mono h1 (fun r s2 z => ?_) fun _ _ e => e)
    obtain ⟨rfl, rfl⟩ := z
    refine wpAny_bind (wpAny_rule (wpAny_bind (wpAny_mono h2 (fun b s3 z => ?_) fun _ _ e => e)))
    obtain ⟨rfl, hq⟩ := z
    exact wpAny_pure hq
  · rename_i q
    exact absurd (by simp) q
theorem objNe_ni {f : Addr} {u : Value} {ox : Obj} {od : Option Obj} (X : K.In s.heap) (I : PySem.W.InstAt s.heap x ox C od) (hs : PySem.W.findIn K (.ref C) "__eq__" = some (some (.ref f))) (hf : PySem.W.isFn K (.ref f) = true) (hu : A.units < cLine) {Q : Fin → Shared → Prop}
    (hcall : wpAny (model prog w) A (call (.ref f) [.ref x, u]) (fun v s' => v = .notImplemented ∧ Q (.done (.ret .notImplemented)) s') E s) :
    wpAny (model prog w) A (Builtin.«object.__ne__» ⟨[.ref x, u], []⟩) Q E s := by
  obtain ⟨h, g, d, t, os⟩ := s
  unfold Builtin.«object.__ne__»
  repeat (first
    | with_reducible refine wpAny_cRoomFor hu ?_
    | (refine wpAny_bind (m := callSpecialIfBound? (.ref x) (Str.ofString "__eq__") [u])
        (PySem.W.ifBound_K X I hs hf (wpAny_mono hcall (fun r s' hr => by
          obtain ⟨rfl, hq⟩ := hr
          repeat (first | exact hq | exact wpAny_pure hq | wp_step)) fun _ _ e => e)))
    | wp_step)
theorem rcNe_ni {f : Addr} {u : Value} {Tb : String} {ox : Obj} {od : Option Obj} (hu : A.units + 1 < cLine) (X : K.In s.heap) (I : PySem.W.InstAt s.heap x ox C od) (hb : s.TypeIs u Tb) (hsub : PySem.W.subIn K (.type Tb) (.ref C) = some false)
    (hm : PySem.W.mroIn K C (.type "object") = some true) (hn : PySem.W.findIn K (.ref C) "__ne__" = some (some (.builtin "object.__ne__"))) (hs : PySem.W.findIn K (.ref C) "__eq__" = some (some (.ref f))) (hf : PySem.W.isFn K (.ref f) = true)
    (hcall : wpAny (model prog w) A.in1 (call (.ref f) [.ref x, u]) (fun v s1 => v = .notImplemented ∧ wpAny (model prog w) A (tryCompare u "__ne__" (.ref x)) (fun r s2 => r = none ∧ s2 = s1) E s1 ∧ wpAny (model prog w) A (isSame (.ref x) u) (fun b s3 => b = false ∧ Q (.bool true) s3) E s1) E s) :
    wpAny (model prog w) A (richCompare .NotEq (.ref x) u) Q E s := by
  have one : wpAny (model prog w) A (tryCompare (.ref x) "__ne__" u) (fun r s1 => r = none ∧ wpAny (model prog w) A (tryCompare u "__ne__" (.ref x)) (fun r s2 => r = none ∧ s2 = s1) E s1 ∧ wpAny (model prog w) A (isSame (.ref x) u) (fun b s3 => b = false ∧ Q (.bool true) s3) E s1) E s := by
    unfold tryCompare
    refine wpAny_bind (ifBound_objNe X I hn (wpAny_call (codeAny_call_builtin F.cmp_object.ne.plain F.cmpEntry_ne (PySem.W.check_slot F.cmpKind_ne F.cmpSplit_ne (I.type.andThen (PySem.W.looks_mroIn X hm)) (F.cmpArgs_ne _ _)
      (objNe_ni X I hs hf hu (wpAny_mono hcall (fun v s1 hv => ?_) fun _ _ e => e))))))
    obtain ⟨rfl, h1, h2⟩ := hv
    exact ⟨rfl, wpAny_pure ⟨rfl, h1, h2⟩⟩
  simp only [richCompare, cmpInfo_NotEq, oneThing_ref]
  refine wpAny_holding (wpAny_bind (wpAny_cRoomFor (Nat.lt_of_succ_lt hu) ?_))
  refine wpAny_bind (I.type.here ?_)
  refine wpAny_bind (wpAny_typeOf hb ?_)
  split
  · refine wpAny_bind ((PySem.W.looks_subIn X hsub).here ?_)
    simp only [Bool.false_eq_true, if_false, Bool.not_false, if_true]
    refine wpAny_bind (m := tryCompare (.ref x) _ u) (wpAny_mono one (fun r s1 z => ?_) fun _ _ e => e)
    obtain ⟨rfl, h1, h2⟩ := z
    refine wpAny_bind (m := tryCompare u _ (.ref x)) (wpAny_mono h1 (fun r s2 z => ?_) fun _ _ e => e)
    obtain ⟨rfl, rfl⟩ := z
    refine wpAny_bind (wpAny_rule (wpAny_bind (wpAny_mono h2 (fun b s3 z => ?_) fun _ _ e => e)))
    obtain ⟨rfl, hq⟩ := z
    exact wpAny_pure hq
  · rename_i q
    exact absurd (by simp) q
end
/-! ### a def that answers NotImplemented -/
def CN (outer : List Env) (P : Program) (w : World) (H : Hp) (s : Shared) (QH : Hp → Prop) (r : Result) (s' : Shared) : Prop :=
  r = .ok (.ret .notImplemented) ∧ ∃ H', s'.os = s.os ∧ AllBare s'.gens ∧ Un (frs outer) [] H H' s.heap s'.heap ∧ HOk P w H' s'.heap ∧ QH H'
abbrev SpN := List L2.V → Hp → (Hp → Prop) → Prop
structure NiOk (P : Program) (w : World) (K : PySem.W.Frag) (mg : Str → Option Value) (base : Heap) (k : Nat) (f : Addr) (fd : FuncData) (ps : List Str) (sp : SpN) : Prop where
  len : ∀ vs H Q, sp vs H Q → vs.length = ps.length
  run : ∀ (A : Around) (outer : List Env) (s : Shared) (H : Hp) (args : Args) (us : List Value) (vs : List L2.V) (Q : Hp → Prop), Room k A → Env0 P w K mg base A outer s H → BindsTo s fd args (ps.zip us) → Vals vs us → sp vs H Q →
    codeAny (model P w) A (.call (.ref f) args) (CN outer P w H s Q) s
section
variable {P : Program} {w : World} {K : PySem.W.Frag} {mg : Str → Option Value} {base : Heap}
theorem ni_ok {x qual : Str} {st : Stmt} {f : Addr} {fd : FuncData} {N ps : List Str} {k : Nat} {sp : SpN} {test : Expr} {p1 p2 p3 : Pos} {els rest : List Stmt} (F : Fun K x qual st f fd) (S : FnScope N ps (defScope st)) (len : ∀ vs H Q, sp vs H Q → vs.length = ps.length)
    (hbd : defBody st = .If test [.Return (some (.Name "NotImplemented" p1)) p2] els p3 :: rest) (hm : mg "NotImplemented" = none)
    (hgl : ∀ (cdv : Value) (A : Around) (outer : List Env) (s : Shared) (H : Hp) (E : XK), Gl (cxOf CX0 P w K mg base N qual (defScope st) f cdv A outer s H E) "NotImplemented")
    (hbody : ∀ (cdv : Value) (A : Around) (outer : List Env) (s : Shared) (H : Hp) (vs : List L2.V) (Q : Hp → Prop), Room k (A.deeper (envOfC qual (defScope st) s.heap.objs.size f cdv)) → sp vs H Q →
      ∃ tt, PT (cxOf CX0 P w K mg base N qual (defScope st) f cdv A outer s H E0) test tt ∧ tt (start N vs) H fun b H' => b = true ∧ Q H') : NiOk P w K mg base (k + 1) f fd ps sp := by
  obtain ⟨oc, od, kV, doc, pm, an, cdv, ct, osl, rfl, lk, hcd⟩ := F.ex
  refine ⟨len, fun A outer s H args us vs Q hr e0 hb r hsp => ?_⟩
  have hl := len _ _ _ hsp
  have KX : K.In s.heap := e0.mod.kin.keeps fun b o e => (e0.bs b o e).1
  have lim : s.heap.NoLimit := e0.mod.nolimit.keeps fun b o e => (e0.bs b o e).1
  have hkind : ∀ y ∈ ps.zip us, (defScope st).names.lookup y.1 = some .local ∨ ((defScope st).names.lookup y.1 = some .cell ∧ ((cellsFrom (s.heap.objs.size + 1) (defScope st).names []).lookup y.1).isSome = true) := fun ⟨n, v⟩ hy => by
    rcases S.par n (List.of_mem_zip hy).1 with q | q
    · exact .inl q
    · exact .inr ⟨q, PySem.W.cellsFrom_some _ _ _ (.inl q)⟩
  refine codeAny_call_function hr.depth (KX _ _ lk) rfl S.co S.gen rfl (PySem.W.codeRec_of KX hcd) (hb _ _ _ _ ?_)
  refine wpAny_newFunctionEnv_cells S.kind hkind fun env he s1 x => ?_
  subst he
  refine ⟨lim.keeps x.toInCall.keep, codeAny_func ?_⟩
  obtain ⟨t, ht, hq⟩ := hbody cdv A outer s H vs Q (hr.deeper _) hsp
  have I : Inv (cxOf CX0 P w K mg base N qual (defScope st) f cdv A outer s H E0) [] (start N vs) H s1 := inv_start S hr.hd e0 hl r x
  show wpAny _ _ (execs (defBody st) _) _ _ s1
  rw [hbd]
  refine wpAny_execs_cons (wpAny_If ?_)
  refine wpAny_mono (ht.run [] s1 (start N vs) H _ I hq) (fun b s2 hs => ?_) fun e s' hs => wpAny_mono hs (fun _ _ z => False.elim z) fun _ _ z => False.elim z
  obtain ⟨H1, I1, rfl, q1⟩ := hs
  refine wpAny_execs_cons (wpAny_Return_some ?_)
  refine ld_blt I1 (hgl cdv A outer s H E0) hm (u := .notImplemented) (by decide +kernel) ?_ (by decide) (by decide)
  exact ⟨rfl, H1, I1.os, I1.bare, I1.base, I1.hok, q1⟩
end
end Rd

set_option Elab.async false
set_option linter.all false
set_option maxRecDepth 100000
set_option autoImplicit false
set_option maxHeartbeats 4000000
namespace Rd
open PySem PySem.Spec PyProof.Rows PySem.SeqAt L2
section
variable {prog : Program} {w : World} {A : Around} {E : Value → Shared → Prop} {s : Shared} {K : PySem.W.Frag} {x C dx : Addr}
theorem same_refs {b : Addr} {ob : Obj} (hne : x ≠ b) (hx : s.heap.get? x = some (PySem.W.instObj C dx)) (hb : s.heap.get? b = some ob) {Q : Bool → Shared → Prop} (h : Q false s) : wpAny (model prog w) A (isSame (.ref x) (.ref b)) Q E s := by
  unfold isSame
  simp only []
  rw [if_neg (by simpa using hne)]
  refine wpAny_bind (wpAny_load hx ?_)
  refine wpAny_bind (wpAny_load hb ?_)
  exact wpAny_pure h
theorem sub_base {T : String} {bs : List Value} (e : fastBuiltinMro T = some bs) (h : bs.contains (.ref C) = false) : PySem.W.subIn K (.type T) (.ref C) = some false := by
  show (fastBuiltinMro T).map (·.contains (.ref C)) = some false
  rw [e]
  simp only [Option.map_some, h]
theorem sub_int : PySem.W.subIn K (.type "int") (.ref C) = some false := sub_base (bs := [.type "int", .type "object"]) (by decide +kernel) rfl
theorem sub_str : PySem.W.subIn K (.type "str") (.ref C) = some false := sub_base (bs := [.type "str", .type "object"]) (by decide +kernel) rfl
theorem sub_list : PySem.W.subIn K (.type "list") (.ref C) = some false := sub_base (bs := [.type "list", .type "object"]) (by decide +kernel) rfl
theorem sub_tuple : PySem.W.subIn K (.type "tuple") (.ref C) = some false := sub_base (bs := [.type "tuple", .type "object"]) (by decide +kernel) rfl
end
/-- what is no instance: None, an int, a text, a list, a tuple -/
inductive OthV (H : Hp) : L2.V → Prop
  | non : OthV H .non
  | int (i : Int) : OthV H (.int i)
  | str (z : Str) : OthV H (.str z)
  | lst {a : Addr} {xs : List L2.V} (h : H a = some (.lst xs)) : OthV H (.ref a)
  | tup {a : Addr} {xs : List L2.V} (h : H a = some (.tup xs)) : OthV H (.ref a)
/-- what the class must not be -/
structure NoSeq (K : PySem.W.Frag) (C : Addr) : Prop where
  l : PySem.W.subIn K (.ref C) (.type "list") = some false
  t : PySem.W.subIn K (.ref C) (.type "tuple") = some false
def spNi (C : Addr) : SpN := fun vs H Q => ∃ a dx fs y, vs = [.ref a, y] ∧ H a = some (.ins C dx fs) ∧ OthV H y ∧ Q H
structure KnNi (P : Program) (w : World) (K : PySem.W.Frag) (mg : Str → Option Value) (base : Heap) (k : Nat) (C : Addr) : Prop where
  ex : ∃ f fd, Meth K C "__eq__" f ∧ Binds K fd ["self", "other"] [] ∧ NiOk P w K mg base k f fd ["self", "other"] (spNi C)
theorem TxM.ni {P : Program} {w : World} {K : PySem.W.Frag} {mg : Str → Option Value} {base : Heap} {k : Nat} {C : Addr} {qual : Str} {st : Stmt} (t : TxM K C "__eq__" qual st ["self", "other"])
    (h : ∀ f fd, Fun K "__eq__" qual st f fd → NiOk P w K mg base k f fd ["self", "other"] (spNi C)) : KnNi P w K mg base k C :=
  let ⟨f, fd, a, b, c⟩ := t.ex
  ⟨f, fd, a, c, h f fd b⟩
def rNi (C : Addr) (k : Bool) : R2 := fun x y H Q => ∃ a dx fs, x = .ref a ∧ H a = some (.ins C dx fs) ∧ OthV H y ∧ Q (.bl k) H
section
variable {X : Cx} {k j : Nat} {C : Addr}
theorem run_ni {pins : List (Addr × Obj)} {σ : L2.St} {H : Hp} {s : Shared} {f : Addr} {fd : FuncData} {us : List Value} {vs : List L2.V} {ps : List Str} {sp : SpN} {A : Around} {QH : Hp → Prop} {E : Value → Shared → Prop} (F : NiOk X.prog X.w X.K X.mg X.base k f fd ps sp) (hr : Room k A) (hb : Binds X.K fd ps [])
    (e0 : Env0 X.prog X.w X.K X.mg X.base A X.stack s H) (I : Inv X pins σ H s) (r : Vals vs us) (h : sp vs H QH) : wpAny (model X.prog X.w) A (call (.ref f) us) (fun v s' => v = .notImplemented ∧ ∃ H', Inv X pins σ H' s' ∧ QH H') E s := by
  have hl : us.length = ps.length := by rw [← r.length]; exact F.len _ _ _ h
  have hb2 := hb s us I.kIn (by simpa using hl)
  refine wpAny_call (codeAny_mono (F.run A X.stack s H ⟨us, []⟩ us vs QH hr e0 (by simpa using hb2) r h) fun rr s' hq => ?_)
  obtain ⟨rfl, H', os, bare, un, hok, q⟩ := hq
  obtain ⟨hh, g, d, t, os'⟩ := s'
  obtain rfl : os' = s.os := os
  exact ⟨rfl, H', I.call (h' := hh) (g' := g) (d' := d) (t' := t) (ch := []) un hok bare (fun b z => absurd z (by simp)), q⟩
theorem op_eqNi (h : KnNi X.prog X.w X.K X.mg X.base k C) (N : NoSeq X.K C) (hr : Room j X.A) (hj : k ≤ j := by decide) : OpR X (compareOp .Eq) (rNi C false) := by
  obtain ⟨f, fd, M, b, F⟩ := h.ex
  intro pins s σ H x y v u Q I rx ry q
  obtain ⟨a, dx, fs, rfl, ha, oy, q⟩ := q
  cases rx
  obtain ⟨mA, J, _⟩ := ins_get I.hok ha
  obtain ⟨od, J', _⟩ := J.look
  have hr' : Room k X.A := hr.mono hj
  have main : ∀ (Tb : String), s.TypeIs u Tb → PySem.W.subIn X.K (.type Tb) (.ref C) = some false →
      (∀ s1, Inv X pins σ H s1 → wpAny (model X.prog X.w) X.A (tryCompare u "__eq__" (.ref a)) (fun r s2 => r = none ∧ s2 = s1) X.xe s1 ∧ ∀ Q' : Bool → Shared → Prop, Q' false s1 → wpAny (model X.prog X.w) X.A (isSame (.ref a) u) Q' X.xe s1) →
      wpAny (model X.prog X.w) X.A (compareOp .Eq (.ref a) u) (EP X pins σ Q) X.xe s := fun Tb hT hsub hd => by
    show wpAny (model X.prog X.w) X.A (richCompare .Eq (.ref a) u) (EP X pins σ Q) X.xe s
    refine rcEq_ni hr'.units0 I.kIn J' hT hsub M.at_ M.fn ?_
    refine wpAny_mono (run_ni (us := [.ref a, u]) (vs := [.ref a, y]) (QH := fun H' => H' = H) F hr' b I.env0 I (.cons rfl (.cons ry .nil)) ⟨a, dx, fs, y, rfl, ha, oy, rfl⟩) (fun v s1 z => ?_) fun _ _ e => e
    obtain ⟨rfl, H', I1, rfl⟩ := z
    obtain ⟨d1, d2⟩ := hd s1 I1
    exact ⟨rfl, d1, d2 _ ⟨rfl, .bl false, H', I1, rfl, q⟩⟩
  cases oy with
  | non =>
    cases ry
    exact main "NoneType" rfl HN.sub_none fun s1 I1 => ⟨dec_none, fun Q' h' => wpAny_of_eq (rfl : isSame (.ref a) .none = pure false) h'⟩
  | int i =>
    obtain ⟨t, rfl⟩ := ry
    refine main "int" rfl sub_int fun s1 I1 => ⟨?_, fun Q' h' => wpAny_of_eq (rfl : isSame (.ref a) (.int i t) = pure false) h'⟩
    obtain ⟨_, J1, _⟩ := ins_get I1.hok ha
    exact dec_int i t J1.obj
  | str z =>
    obtain ⟨t, rfl⟩ := ry
    refine main "str" rfl sub_str fun s1 I1 => ⟨?_, fun Q' h' => wpAny_of_eq (rfl : isSame (.ref a) (.str z t) = pure false) h'⟩
    obtain ⟨_, J1, _⟩ := ins_get I1.hok ha
    exact dec_str z t J1.obj
  | @lst l xs hl =>
    cases ry
    obtain ⟨_, _, _, _, _, e0⟩ := I.lstM hl
    refine main "list" ⟨_, e0, rfl⟩ sub_list fun s1 I1 => ?_
    obtain ⟨_, J1, _⟩ := ins_get I1.hok ha
    obtain ⟨od1, L1, _⟩ := J1.look
    obtain ⟨_, _, _, _, _, e1⟩ := I1.lstM hl
    have hne : a ≠ l := fun z => by rw [z, hl] at ha; cases ha
    exact ⟨dec_list I1.kIn L1 N.l e1, fun Q' h' => same_refs hne J1.obj e1 h'⟩
  | @tup l xs hl =>
    cases ry
    obtain ⟨_, _, p0, _⟩ := I.tuple (SqT.of hl)
    obtain ⟨⟨cls0, dd0, data0, sl0⟩, e0, c0, n0, d0⟩ := p0
    simp only at c0 d0
    subst c0 d0
    refine main "tuple" ⟨_, e0, rfl⟩ sub_tuple fun s1 I1 => ?_
    obtain ⟨_, J1, _⟩ := ins_get I1.hok ha
    obtain ⟨od1, L1, _⟩ := J1.look
    obtain ⟨_, _, p1, _⟩ := I1.tuple (SqT.of hl)
    obtain ⟨⟨cls1, dd1, data1, sl1⟩, e1, c1, n1, d1⟩ := p1
    simp only at c1 d1
    subst c1 d1
    have hne : a ≠ l := fun z => by rw [z, hl] at ha; cases ha
    exact ⟨dec_tuple I1.kIn L1 N.t e1, fun Q' h' => same_refs hne J1.obj e1 h'⟩
theorem op_neNi (h : KnNi X.prog X.w X.K X.mg X.base k C) (O : EqC X.K C) (N : NoSeq X.K C) (hr : Room j X.A) (hj : k + 1 ≤ j := by decide) : OpR X (compareOp .NotEq) (rNi C true) := by
  obtain ⟨f, fd, M, b, F⟩ := h.ex
  intro pins s σ H x y v u Q I rx ry q
  obtain ⟨a, dx, fs, rfl, ha, oy, q⟩ := q
  cases rx
  obtain ⟨mA, J, _⟩ := ins_get I.hok ha
  obtain ⟨od, J', _⟩ := J.look
  have hr' : Room (k + 1) X.A := hr.mono hj
  have e0 : Env0 X.prog X.w X.K X.mg X.base X.A.in1 X.stack s H := by
    have e := I.env0
    exact ⟨e.frames, e.mod, e.bs, e.bsz, e.funs, e.frf, e.hok, e.bare⟩
  have main : ∀ (Tb : String), s.TypeIs u Tb → PySem.W.subIn X.K (.type Tb) (.ref C) = some false →
      (∀ s1, Inv X pins σ H s1 → wpAny (model X.prog X.w) X.A (tryCompare u "__ne__" (.ref a)) (fun r s2 => r = none ∧ s2 = s1) X.xe s1 ∧ ∀ Q' : Bool → Shared → Prop, Q' false s1 → wpAny (model X.prog X.w) X.A (isSame (.ref a) u) Q' X.xe s1) →
      wpAny (model X.prog X.w) X.A (compareOp .NotEq (.ref a) u) (EP X pins σ Q) X.xe s := fun Tb hT hsub hd => by
    show wpAny (model X.prog X.w) X.A (richCompare .NotEq (.ref a) u) (EP X pins σ Q) X.xe s
    refine rcNe_ni (by have := hr'.un; omega) I.kIn J' hT hsub O.hm O.hn M.at_ M.fn ?_
    refine wpAny_mono (run_ni (us := [.ref a, u]) (vs := [.ref a, y]) (QH := fun H' => H' = H) F hr'.in1 b e0 I (.cons rfl (.cons ry .nil)) ⟨a, dx, fs, y, rfl, ha, oy, rfl⟩) (fun v s1 z => ?_) fun _ _ e => e
    obtain ⟨rfl, H', I1, rfl⟩ := z
    obtain ⟨d1, d2⟩ := hd s1 I1
    exact ⟨rfl, d1, d2 _ ⟨rfl, .bl true, H', I1, rfl, q⟩⟩
  cases oy with
  | non =>
    cases ry
    exact main "NoneType" rfl HN.sub_none fun s1 I1 => ⟨dec_none', fun Q' h' => wpAny_of_eq (rfl : isSame (.ref a) .none = pure false) h'⟩
  | int i =>
    obtain ⟨t, rfl⟩ := ry
    refine main "int" rfl sub_int fun s1 I1 => ⟨?_, fun Q' h' => wpAny_of_eq (rfl : isSame (.ref a) (.int i t) = pure false) h'⟩
    obtain ⟨_, J1, _⟩ := ins_get I1.hok ha
    exact dec_int' i t J1.obj
  | str z =>
    obtain ⟨t, rfl⟩ := ry
    refine main "str" rfl sub_str fun s1 I1 => ⟨?_, fun Q' h' => wpAny_of_eq (rfl : isSame (.ref a) (.str z t) = pure false) h'⟩
    obtain ⟨_, J1, _⟩ := ins_get I1.hok ha
    exact dec_str' z t J1.obj
  | @lst l xs hl =>
    cases ry
    obtain ⟨_, _, _, _, _, e0⟩ := I.lstM hl
    refine main "list" ⟨_, e0, rfl⟩ sub_list fun s1 I1 => ?_
    obtain ⟨_, J1, _⟩ := ins_get I1.hok ha
    obtain ⟨od1, L1, _⟩ := J1.look
    obtain ⟨_, _, _, _, _, e1⟩ := I1.lstM hl
    have hne : a ≠ l := fun z => by rw [z, hl] at ha; cases ha
    exact ⟨dec_list' I1.kIn L1 N.l e1, fun Q' h' => same_refs hne J1.obj e1 h'⟩
  | @tup l xs hl =>
    cases ry
    obtain ⟨_, _, p0, _⟩ := I.tuple (SqT.of hl)
    obtain ⟨⟨cls0, dd0, data0, sl0⟩, e0, c0, n0, d0⟩ := p0
    simp only at c0 d0
    subst c0 d0
    refine main "tuple" ⟨_, e0, rfl⟩ sub_tuple fun s1 I1 => ?_
    obtain ⟨_, J1, _⟩ := ins_get I1.hok ha
    obtain ⟨od1, L1, _⟩ := J1.look
    obtain ⟨_, _, p1, _⟩ := I1.tuple (SqT.of hl)
    obtain ⟨⟨cls1, dd1, data1, sl1⟩, e1, c1, n1, d1⟩ := p1
    simp only at c1 d1
    subst c1 d1
    have hne : a ≠ l := fun z => by rw [z, hl] at ha; cases ha
    exact ⟨dec_tuple' I1.kIn L1 N.t e1, fun Q' h' => same_refs hne J1.obj e1 h'⟩
/-- two readings of one operator -/
theorem OpR.orR {op : Value → Value → Sem Value} {r r' : R2} (h : OpR X op r) (h' : OpR X op r') : OpR X op (fun x y H Q => r x y H Q ∨ r' x y H Q) := fun pins s σ H x y v u Q I rx ry q => q.elim (h pins s σ H x y v u Q I rx ry) (h' pins s σ H x y v u Q I rx ry)
/-- two readings of one expression -/
theorem pe_orR {e : Expr} {t t' : TE} (h : PE X e t) (h' : PE X e t') : PE X e (fun σ H Q => t σ H Q ∨ t' σ H Q) := ⟨fun pins s σ H Q I q => q.elim (h.run pins s σ H Q I) (h'.run pins s σ H Q I)⟩
end
end Rd

set_option Elab.async false
set_option linter.all false
set_option maxRecDepth 100000
set_option autoImplicit false
set_option maxHeartbeats 4000000
/-! isinstance of a caught exception that has fields of its own (HandS.ExcIs has it for one without) -/
namespace Rd
open PySem PySem.Spec PySem.Calls PyProof.Rows PySem.W
section
variable {prog : Program} {w : World} {A : Around} {E : Value → Shared → Prop} {s : Shared} {K : Frag} {x D : Addr} {ox o : Obj}
theorem class_of_exc {Q : Option Value → Shared → Prop} (C : L2.ExcC K D) (X : K.In s.heap) (I : InstAt s.heap x ox D (some o)) (h : Q (some (.ref D)) { s with toks := s.toks + 1 }) : wpAny (model prog w) A (getAttr? (.ref x) "__class__") Q E s := by
  have hf : findObj K D (some o) "__class__" = some (.bind (.builtin "getset_descriptor.__get__") (.builtin "object.__class__")) := findObj_data (by obtain ⟨cd, hc, _⟩ := any_some C.hd; rw [hc]; rfl) C.ha C.hn C.ht
  obtain ⟨hp, g, d, t, os⟩ := s
  have L0 := I.type (M := model prog w)
  have L1 := looks_findIn (M := model prog w) X C.hg
  have L2 := looks_findIn (M := model prog w) X C.hk
  have L3 := looks_find (M := model prog w) X I hf
  have sub : Looks (model prog w) hp (isInstance (.ref x) (.type "BaseException")) true := L0.andThen (looks_subIn X C.hs)
  have hx0 : (false && onTheHeap (Value.builtin "BaseException.__getattribute__")) = false := rfl
  have hx2 : (Value.builtin "BaseException.__getattribute__" == Value.builtin "object.__getattribute__") = false := by decide +kernel
  have hx1 : (onTheHeap (Value.ref D) && Value.builtin "BaseException.__getattribute__" == Value.builtin "object.__getattribute__") = false := by rw [hx2]; rfl
  unfold getAttr? getAttrBy? getAttrBy
  refine wpAny_bind (wpAny_mkText (wpAny_bind (wpAny_attempt (wpAny_holding (wpAny_bind (L0.at (wpAny_bind (L1.at ?_))))))))
  show wpAny _ _ (if (onTheHeap (Value.ref D) && Value.builtin "BaseException.__getattribute__" == Value.builtin "object.__getattribute__") = true then _ else _) _ _ _
  rw [hx1, if_neg Bool.false_ne_true]
  unfold getAttrByItsOwn hookBefore
  refine wpAny_bind ?_
  rw [if_pos (show onTheHeap (Value.ref D) = true from rfl)]
  refine L2.at ?_
  refine wpAny_bind (wpAny_attempt (wpAny_holding ?_))
  unfold callGetattribute
  rw [hx0, if_neg Bool.false_ne_true]
  unfold boundAndCalled
  rw [PySem.F.excAttr_ValueError.ga.bind (.ref x)]
  refine wpAny_bind (wpAny_pure ?_)
  show wpAny _ _ (call (.builtin "BaseException.__getattribute__") [.ref x, .str "__class__" t]) _ _ _
  refine wpAny_call (codeAny_call_builtin PySem.F.excAttr_ValueError.ga.plain PySem.F.entry_bexc_ga ?_)
  refine @check_slot (model prog w) _ _ ⟨hp, g, d, t + 1, os⟩ "BaseException.__getattribute__" "BaseException" "__getattribute__" (.ref x) [.str "__class__" t] [] _ (by decide +kernel) (by decide +kernel) sub (PySem.F.args_bexc_ga (.ref x) (.str "__class__" t)) ?_
  unfold Builtin.«object.__getattribute__»
  refine wpAny_bind (wpAny_of_eq (a := ((Value.ref x : Value), [Value.str "__class__" t])) (by first | rfl | (simp only [slotArgs]; rfl)) ?_)
  refine wpAny_bind (wpAny_pure (wpAny_bind (L0.at (wpAny_bind (L3.at ?_)))))
  show wpAny _ _ (holding [Value.builtin "object.__class__"] (call (.builtin "getset_descriptor.__get__") [.builtin "object.__class__", .ref x, .ref D]) >>= ret) _ _ _
  refine wpAny_bind (wpAny_holding (wpAny_call (class_get (s := ⟨hp, g, d, t + 1, os⟩) (ox := ox) (od := some o) X I C.hm ?_)))
  refine wpAny_pure ?_
  show wpAny _ _ (handedOut (.ref D)) _ _ _
  rw [handedOut_of (v := .ref D) rfl]
  first
    | exact wpAny_pure (wpAny_pure h)
    | exact wpAny_pure h
    | exact wpAny_pure (wpAny_bind (wpAny_pure (wpAny_pure h)))
theorem kitx_exc (C : L2.ExcC K D) : KitX K (.ref x) (.ref D) (fun h => InstAt h x ox D (some o)) :=
  let N := handS_kitx_exc (x := x) (ox := ox) C.hg C.hk C.hs C.hd C.ha C.hn C.ht C.hm
  { ty := fun _ _ _ I => I.type
    it := fun p A X I => by
      obtain ⟨cdD, hcD, _⟩ := any_some C.hd
      unfold clsIn at hcD
      split at hcD
      · rename_i c' d' cd' sl' ho
        intro A' Q' E' s' k q
        unfold isType loadHead
        exact wpAny_bind (wpAny_loadPart (k _ _ (X _ _ ho)) (wpAny_pure q))
      · cases hcD
    ne := N.ne
    ca := fun X I k => class_of_exc C X I k }
end
open L2
/-- isinstance(e, c), e the caught exception, d its dict -/
def rIsX (K : PySem.W.Frag) (D a : Addr) (cls : Value) (d : Option Addr) : List L2.V → Hp → VK → Prop := fun xs H Q => ∃ (c : L2.V) (cv : Value) (b : Bool) (dd : Addr) (fs : List (Str × L2.V)), xs = [.ref a, c] ∧ (∀ u, RelV c u → u = cv) ∧ cls = .ref D ∧ d = some dd ∧ H dd = some (.xd fs) ∧ PySem.W.kitOne K (.ref D) cv = some b ∧ Q (.bl b) H
theorem call_isX {X : Cx} {a D : Addr} {oe : Obj} {cls : Value} {d : Option Addr} {pn : List (Addr × Obj)} (C : ExcC X.K D) (hz : Zc cls d oe) (hf : ∃ vs, oe.data = .fields vs) : CallR (X.suite a ((a, oe) :: pn)) (.builtin "isinstance") (rIsX X.K D a cls d) := by
  intro pins s σ H xs us Q I r h
  obtain ⟨c, cv, b, dd, fs, rfl, hcv, rfl, rfl, ea, e, q⟩ := h
  cases r with
  | cons rx rr =>
    cases rr with
    | cons rt rr =>
      cases rr
      cases rx
      have ec := hcv _ rt
      subst ec
      obtain ⟨hget, _⟩ := I.pin (a, oe) (List.mem_append.mpr (.inl List.mem_cons_self))
      obtain ⟨vs, hv⟩ := hf
      have hx : ObjOk X.prog X.w H s.heap dd (.xd fs) := I.hok dd _ ea
      obtain ⟨mA, hns, hr⟩ := hx
      obtain ⟨od, ho, hl⟩ := lookIn_ns hns
      have J : PySem.W.InstAt s.heap a oe D (some od) := ⟨hget, hz.1, by unfold PySem.W.notCls; rw [hv] <;> rfl, by rw [hz.2]; exact ho⟩
      exact PySem.W.kia_one (kitx_exc C) I.kIn J e (fun z => nomatch z) fun tk => ⟨.bl b, H, I.kept (t' := tk) fun _ _ z => z, rfl, q⟩
end Rd
namespace Rd
open PySem PySem.Spec PyProof.Rows L2
section
variable {X : Cx} {CX : CXT} {k j : Nat} {f C : Addr} {fd : FuncData} {ps : List Str} {sp : Sp} {E : XK} {x : Str} {p pos : Pos} {e : Expr} {es : List Expr} {t : TA} {W : WX}
/-- as run_make, for a wish of an exception that knows the frame's slots -/
theorem run_makeS {pins : List (Addr × Obj)} {σ : L2.St} {H : Hp} {s : Shared} {Q : VK} {us : List Value} {vs : List V} (M : Mk X.K C f) (F : FnOk X.prog X.w X.K X.mg X.base CX k f fd ps sp) (hr : Room (k + 1) X.A) (hb : Binds X.K fd ps [])
    (hx : PassesAt CX X σ E) (I : Inv X pins σ H s) (r : Vals vs us) (h : MakeK C sp vs H Q E) : wpAny (model X.prog X.w) X.A (call (.ref C) us) (EP X pins σ Q) X.xe s := by
  have hq := h (s.heap.objs.size + 1) s.heap.objs.size (I.hok.fresh (Nat.le_succ _)) (I.hok.fresh (Nat.le_refl _)) (Nat.ne_of_lt (Nat.lt_succ_self _))
  rw [List.append_nil] at hq
  have I2 := Inv.made (C := C) I
  have r2 : Vals (V.ref (s.heap.objs.size + 1) :: vs) (Value.ref (s.heap.objs.size + 1) :: us) := .cons rfl r
  have hl : (Value.ref (s.heap.objs.size + 1) :: us).length = ps.length := by
    have e := r2.length
    rw [F.len _ _ _ _ hq] at e
    exact e.symm
  have hb2 := hb _ (Value.ref (s.heap.objs.size + 1) :: us) I2.kIn (by simpa using hl)
  refine wpAny_call (make_map (f := f) I.kIn M.makes M.init (beq_iff_eq.mp M.fn) (codeAny_mono (F.run _ X.stack _ _ ⟨Value.ref (s.heap.objs.size + 1) :: us, []⟩ (Value.ref (s.heap.objs.size + 1) :: us) _ _ E (hr.make C us [])
    (I2.env0.make C us []) (by simpa using hb2) r2 hq) fun r s' hq' => ?_))
  cases r with
  | error e => exact hx pins _ _ e s' I2 hq'
  | ok fl =>
    cases fl with
    | ret u =>
      obtain ⟨v, H', I3, rv, ev, q3⟩ := I2.after hq'
      subst ev
      exact ⟨rv, ⟨V.ref (s.heap.objs.size + 1), H', I3, rfl, q3⟩⟩
    | next => exact False.elim hq'
    | brk => exact False.elim hq'
    | cont => exact False.elim hq'
def tMakeS (C : Addr) (sp : Sp) (E : L2.St → XK) (t : TA) : TE := fun σ H Q => t σ H fun vs H1 => MakeK C sp vs H1 Q (E σ)
/-- an own class made, its __init__ may raise -/
theorem pkCX (h : KnC X.prog X.w X.K X.mg X.base (L2.CX X.prog X.w) k x C ps sp) (hr : Room j X.A) (tk : Takes X W) (ha : PA X (e :: es) t) (hj : k + 1 ≤ j := by decide) (hg : Gl X x := by rfl) (hdb : (x == ("__debug__" : Str)) = false := by decide)
    (he : starEach (e :: es) X.env = (false, eval e X.env) :: starEach es X.env := by rfl) (hpl : (backTo pos (starEach es X.env)).any (·.1) = false := by rfl) : PE X (.Call (.Name x p) (e :: es) [] pos) (tMakeS C sp (WE W) t) := by
  obtain ⟨f, fd, m, M, b, F⟩ := h.ex
  refine ⟨fun pins s σ H Q I q => ?_⟩
  refine wpAny_Call_Name_kw (ld_glob I hg m ?_ hdb)
  refine PySem.W.callWith_K (h₀ := X.base) I.ok.mod.kin M.kp (thn (ha.run pos pins s σ H _ I q) fun us s1 ⟨vs, H1, I1, r, q1⟩ => ⟨I1.kIn, ?_⟩) he hpl
  exact run_makeS M F (hr.mono hj) b (passAt tk σ) I1 r q1
theorem w_makeS {E : L2.St → XK} {σ : L2.St} {H : Hp} {Q : VK} (h : t σ H fun vs H1 => MakeK C sp vs H1 Q (E σ)) : tMakeS C sp E t σ H Q := h
end
end Rd

set_option Elab.async false
set_option linter.all false
set_option maxRecDepth 100000
set_option autoImplicit false
set_option maxHeartbeats 4000000
/-! A list of anything, beside the empty list. -/
namespace Rd
open PySem PySem.Spec PyProof.Rows L2
def rNeNil (K : PySem.W.Frag) : R2 := fun x y H Q => ∃ l b xs, x = .ref l ∧ y = .ref b ∧ SqL K H l xs ∧ SqL K H b [] ∧ Q (.bl (!xs.isEmpty)) H
theorem op_neNil {X : Cx} (hu : X.A.units + 64 < cLine) : OpR X (compareOp .NotEq) (rNeNil X.K) := by
  intro pins s σ H x y v u Q I rx ry h
  obtain ⟨l, b, xs, rfl, rfl, hl, hb, q⟩ := h
  cases rx
  cases ry
  obtain ⟨its, r, e, z⟩ := I.list hl
  obtain ⟨its2, r2, e2, z2⟩ := I.list hb
  have l1 := r.length
  have l2 := r2.length
  have z0 : its2 = [] := List.length_eq_zero_iff.1 (by rw [← l2]; rfl)
  subst z0
  have go : ∀ k, k = !xs.isEmpty → SeqAt.RcNeAt X.A s (.ref l) (.ref b) k → wpAny (model X.prog X.w) X.A (compareOp .NotEq (.ref l) (.ref b)) (EP X pins σ Q) X.xe s := fun k hk h => by
    refine h _ _ _ _ ?_
    rw [hk]
    exact ⟨.bl _, H, I, rfl, q⟩
  cases xs with
  | nil =>
    have z1 : its = [] := List.length_eq_zero_iff.1 (by rw [← l1]; rfl)
    subst z1
    refine go false rfl ?_
    exact SeqAt.RcNeAt.lists (e := fun _ => true) e.isList e2.isList rfl (by omega) (fun j h1 h2 => absurd h1 (by simp))
  | cons x xs =>
    refine go true rfl ?_
    refine SeqAt.RcNeAt.lists_lengths e.isList e2.isList ?_ (by omega)
    cases its with
    | nil => cases l1
    | cons a as => rfl
/-- e.f, where the reading must not speak of the context -/
theorem pe_fldK {X : Cx} {K : PySem.W.Frag} {e : Expr} {f : Str} {pos : Pos} {ta : TE} (he : PE X e ta) (hb : attributeBase e f X.env (eval e X.env) = eval e X.env) (hk : X.K = K := by rfl) : PE X (.Attribute e f pos) (tFld K ta f) := hk ▸ pe_fld he hb
section
variable {H : Hp} {K : PySem.W.Frag} {l b : Addr} {xs : List V} {Q : VK}
theorem w_neNil (h1 : SqL K H l xs) (h2 : H b = some (.lst [])) (q : Q (.bl (!xs.isEmpty)) H) : rNeNil K (.ref l) (.ref b) H Q := ⟨l, b, xs, rfl, rfl, h1, SqL.of h2, q⟩
end
end Rd

set_option Elab.async false
set_option linter.all false
set_option maxRecDepth 100000
set_option autoImplicit false
set_option maxHeartbeats 4000000
/-! a, b, .. = l, l a list -/
namespace Rd
open PySem PySem.Spec PyProof.Rows L2
section
variable {prog : Program} {w : World} {A : Around} {E : Value → Shared → Prop}
theorem draw_lst {it l : Addr} {xs : Array Value} (ne : l ≠ it) (n : Nat) : ∀ (i : Nat) (s : Shared) (Q : List Value → Shared → Prop), s.heap.IsListIter it l i → s.heap.IsList l xs → i + n ≤ xs.size →
    (∀ h', h'.IsListIter it l (i + n) → Heap.SameBut it s.heap h' → Q ((xs.toList.drop i).take n) { s with heap := h' }) → wpAny (model prog w) A (draw (.ref it) n) Q E s := by
  induction n with
  | zero =>
    intro i s Q hi hl _ q
    exact wpAny_pure (a := []) (by simpa using q s.heap hi (Heap.SameBut.refl ..))
  | succ n ih =>
    intro i s Q hi hl hz q
    have lt : i < xs.size := by omega
    refine wpAny_bind (m := pyNext (.ref it)) (wpAny_pyNext_list_item hi hl (x := xs[i]) (by simp [lt]) fun h1 i1 s1 => wpAny_bind (wpAny_holding (ih (i + 1) _ _ i1 (hl.extBut s1.extBut ne) (by omega) fun h2 i2 s2 => wpAny_pure ?_)))
    have e : xs.toList.drop i = xs[i] :: xs.toList.drop (i + 1) := by simp [List.drop_eq_getElem_cons, lt]
    have r := q h2 (by rw [show i + (n + 1) = i + 1 + n by omega]; exact i2) (s1.trans s2)
    rw [e, List.take_succ_cons] at r
    exact r
theorem unpack_lst {s : Shared} {l : Addr} {xs : Array Value} {ts : List (Bool × (Value → Sem Unit))} {Q : Unit → Shared → Prop} (hh : A.handled = none) (hl : s.heap.IsList l xs) (hn : ts.length = xs.size) (hs : ts.findIdx? (·.1) = none)
    (q : ∀ h', Heap.ExtBut s.heap.objs.size s.heap h' → wpAny (model prog w) A (assignInOrder (ts.map (·.2)) xs.toList) Q E { s with heap := h' }) : wpAny (model prog w) A (unpack (.ref l) ts) Q E s := by
  have ne : l ≠ s.heap.objs.size := by
    obtain ⟨o, ho, _⟩ := hl
    exact Nat.ne_of_lt (Heap.lt_size ho)
  unfold unpack unpackItems notIterableAtAll
  rw [hn, hs]
  refine wpAny_bind (wpAny_holding (wpAny_bind (wpAny_bind (wpAny_specialOf hl.typeIs slot_list_iter.lookup (wpAny_pure ?_)))))
  rw [if_neg Bool.false_ne_true]
  refine wpAny_bind (wpAny_holding (wpAny_pyIter_list hl ?_))
  refine wpAny_bind (wpAny_holding (draw_lst ne xs.size 0 _ _ ⟨_, Heap.get?_push_size _ rfl, rfl, rfl⟩ (hl.push _) (by omega) fun h1 i1 s1 => ?_))
  rw [List.drop_zero, List.take_of_length_le (by simp), if_neg (by simp)]
  refine wpAny_bind (wpAny_holding (wpAny_pyNext_list_end hh i1 ((hl.push _).extBut s1.extBut ne) (by simp) fun h2 e2 => ?_))
  rw [if_neg (by simp)]
  exact wpAny_pure (q h2 fun b o hb e => e2 b o hb (s1.extBut b o hb (Heap.get?_push_of_some _ e)))
end
section
variable {X : Cx}
/-- targets of a list's items -/
def gLst (K : PySem.W.Frag) (n : Nat) (t : TGs) : TG := fun v σ H Q => ∃ a xs, v = .ref a ∧ SqL K H a xs ∧ xs.length = n ∧ t xs σ H Q
theorem pg_lst {es : List Expr} {k : Nat} {pos : Pos} {t : TGs} {n : Nat} (hc : X.calm = true) (h : PGs X es t) (hn : (assignEach es X.env).length = n := by rfl) (hst : (assignEach es X.env).findIdx? (·.1) = none := by rfl) : PG X (.Tuple es k pos) (gLst X.K n t) := by
  refine ⟨fun pins s σ H v u Q I r ⟨a, xs, e1, hq, hl, hw⟩ => ?_⟩
  subst e1
  cases r
  obtain ⟨its, rv, hp, hz⟩ := I.list hq
  rw [assign_Tuple]
  refine wpAny_bind (wpAny_standAt (unpack_lst (I.ok.hd hc) hp.isList (by simp [hn, ← hl, rv.length]) hst fun h' hx => ?_))
  exact h.run pins _ σ H xs _ Q (I.kept (t' := s.toks) fun b o e => hx b o (Nat.ne_of_lt (Heap.lt_size e)) e) (by simpa using rv) hw
theorem w_glst {K : PySem.W.Frag} {n : Nat} {t : TGs} {a : Addr} {xs : List V} {σ : L2.St} {H : Hp} {Q : L2.St → Hp → Prop} (h : H a = some (.lst xs)) (hn : xs.length = n) (q : t xs σ H Q) : gLst K n t (.ref a) σ H Q := ⟨a, xs, rfl, SqL.of h, hn, q⟩
end
end Rd

set_option Elab.async false
set_option linter.all false
set_option maxRecDepth 100000
set_option autoImplicit false
set_option maxHeartbeats 4000000
namespace Nu
open PySem PySem.Spec PyProof.Rows L2 Rd
def top (i : Nat) : Stmt := PySem.Challenge.pw_walkmade_k01_floats_by_their_parts.main.body.getD i (.Pass ⟨0, 0, 0, 0⟩)
abbrev s_Float_init : Stmt := inClass (top 10) 0
abbrev s_Float_is_finite : Stmt := inClass (top 10) 4
abbrev s_Float_ratio : Stmt := inClass (top 10) 5
abbrev s_is_plain : Stmt := top 11
abbrev s_reduced : Stmt := top 12
abbrev s_fits : Stmt := top 13
abbrev s_sign_of : Stmt := top 14
abbrev s_infinity : Stmt := top 15
abbrev s_nearest : Stmt := top 16
abbrev s_to_float : Stmt := top 18
/-! ### floats as data -/
inductive Fl where
  | fin (s t p : Int)
  | inf (s : Int)
  | nan
  deriving DecidableEq
def Fl.s : Fl → Int
  | .fin s _ _ => s
  | .inf s => s
  | .nan => 1
def Fl.t : Fl → V
  | .fin _ t _ => .int t
  | .inf _ => .str "inf"
  | .nan => .str "nan"
def Fl.p : Fl → Int
  | .fin _ _ p => p
  | _ => 0
def flds (s : Int) (t : V) (p : Int) : List (Str × V) := putF "power" (.int p) (putF "top" t (putF "sign" (.int s) []))
theorem ne_st : ¬ ("sign" : Str) = "top" := by decide +kernel
theorem ne_sp : ¬ ("sign" : Str) = "power" := by decide +kernel
theorem ne_tp : ¬ ("top" : Str) = "power" := by decide +kernel
theorem flds_s (s : Int) (t : V) (p : Int) : (flds s t p).lookup ("sign" : Str) = some (.int s) := by
  unfold flds
  rw [lookup_putF, if_neg ne_sp, lookup_putF, if_neg ne_st, lookup_putF, if_pos rfl]
theorem flds_t (s : Int) (t : V) (p : Int) : (flds s t p).lookup ("top" : Str) = some t := by
  unfold flds
  rw [lookup_putF, if_neg ne_tp, lookup_putF, if_pos rfl]
theorem flds_p (s : Int) (t : V) (p : Int) : (flds s t p).lookup ("power" : Str) = some (.int p) := by
  unfold flds
  rw [lookup_putF, if_pos rfl]
theorem flds_no (s : Int) (t : V) (p : Int) {m : Str} (h1 : ¬ m = "sign") (h2 : ¬ m = "top") (h3 : ¬ m = "power") : (flds s t p).lookup m = none := by
  unfold flds
  rw [lookup_putF, if_neg h3, lookup_putF, if_neg h2, lookup_putF, if_neg h1]
  rfl
/-- the float f stands at a -/
def FlAt (C : Addr) (H : Hp) (a : Addr) (f : Fl) : Prop := ∃ dx, H a = some (.ins C dx (flds f.s f.t f.p))
theorem FlAt.same {C : Addr} {H H' : Hp} {a : Addr} {f : Fl} (h : FlAt C H a f) (s : Same H H') : FlAt C H' a f := let ⟨dx, e⟩ := h; ⟨dx, s _ _ e⟩
/-- a float that stands is well made -/
def Fl.ok : Fl → Prop
  | .fin s t p => (s = 1 ∨ s = -1) ∧ 0 ≤ t ∧ t < 9007199254740992 ∧ (t = 0 → p = 0) ∧ (t ≠ 0 → -1074 ≤ p ∧ bits t + p ≤ 1024 ∧ t % 2 = 1)
  | .inf s => s = 1 ∨ s = -1
  | .nan => True
/-! ### what the text has -/
structure ClsTy (K : PySem.W.Frag) (C : Addr) : Prop where
  ha : PySem.W.findIn K (.ref C) "__class__" = some (some (.builtin "object.__class__"))
  hn : PySem.W.specialIn K (.builtin "object.__class__") "__get__" = some (some (.builtin "getset_descriptor.__get__"))
  htk : PySem.W.takesIn K (.builtin "object.__class__") = some true
  hm : PySem.W.mroIn K C (.type "object") = some true
structure All (K : PySem.W.Frag) (mg : Str → Option Value) (CF : Addr) : Prop where
  b_isinstance : mg "isinstance" = none
  b_int : mg "int" = none
  b_str : mg "str" = none
  b_bool : mg "bool" = none
  b_abs : mg "abs" = none
  b_max : mg "max" = none
  b_min : mg "min" = none
  b_divmod : mg "divmod" = none
  b_len : mg "len" = none
  b_range : mg "range" = none
  c_LEAST : ∃ t, mg "LEAST" = some (.int (-9223372036854775808) t)
  c_MOST : ∃ t, mg "MOST" = some (.int 9223372036854775807 t)
  c_ROOM : ∃ t, mg "ROOM" = some (.int 9007199254740992 t)
  c_LOWEST : ∃ t, mg "LOWEST" = some (.int (-1074) t)
  c_TOO_GREAT : ∃ t, mg "TOO_GREAT" = some (.int 1024 t)
  g_Float : mg "Float" = some (.ref CF)
  l_Float : Cls K CF
  y_Float : ClsTy K CF
  n_sign : NoAttr K CF "sign"
  n_top : NoAttr K CF "top"
  n_power : NoAttr K CF "power"
  i_Fint : PySem.W.kitOne K (.ref CF) (.type "int") = some false
  i_Fbool : PySem.W.kitOne K (.ref CF) (.type "bool") = some false
  i_Fstr : PySem.W.kitOne K (.ref CF) (.type "str") = some false
  i_intF : PySem.W.kitOne K (.type "int") (.ref CF) = some false
  i_boolF : PySem.W.kitOne K (.type "bool") (.ref CF) = some false
  i_strF : PySem.W.kitOne K (.type "str") (.ref CF) = some false
  i_nonF : PySem.W.kitOne K (.type "NoneType") (.ref CF) = some false
  x_init : TxC K mg "Float" CF "Float.__init__" s_Float_init ["self", "sign", "top", "power"]
  x_is_finite : TxM K CF "is_finite" "Float.is_finite" s_Float_is_finite ["self"]
  x_ratio : TxM K CF "ratio" "Float.ratio" s_Float_ratio ["self"]
  x_is_plain : Tx K mg "is_plain" "is_plain" s_is_plain ["number"]
  x_reduced : Tx K mg "reduced" "reduced" s_reduced ["top", "power"]
  x_fits : Tx K mg "fits" "fits" s_fits ["top", "power"]
  x_sign_of : Tx K mg "sign_of" "sign_of" s_sign_of ["is_negative"]
  x_infinity : Tx K mg "infinity" "infinity" s_infinity ["sign"]
  x_nearest : Tx K mg "nearest" "nearest" s_nearest ["sign", "top", "bottom"]
  x_to_float : Tx K mg "to_float" "to_float" s_to_float ["number"]
/-! ### what isinstance says of a value -/
def Says (K : PySem.W.Frag) (CF : Addr) (H : Hp) (x : V) (pl bo st fl : Bool) : Prop :=
  ∃ t, TyX K H x t ∧ PySem.W.kitOne K t (.type "int") = some (pl || bo) ∧ PySem.W.kitOne K t (.type "bool") = some bo ∧ PySem.W.kitOne K t (.type "str") = some st ∧ PySem.W.kitOne K t (.ref CF) = some fl
local macro_rules | `(tactic| walk_at "hp") => `(tactic| first | assumption | (refine same_get ?sm ?_; (case sm => assumption); walk_at "hp"))
local macro_rules | `(tactic| walk_at "rd") => `(tactic| first
  | with_reducible refine w_nx ?_
  | with_reducible refine w_rt ?_
  | with_reducible refine w_bk ?_
  | with_reducible refine w_ct ?_
  | with_reducible refine w_seq ?_
  | with_reducible refine w_next ?_
  | with_reducible refine w_ret ?_
  | with_reducible refine w_ifS ?_
  | with_reducible refine w_asg ?_
  | with_reducible refine w_name ?_
  | with_reducible refine w_par ?_
  | with_reducible refine w_parI ?_
  | with_reducible refine w_ii ?_
  | with_reducible refine w_i1 ?_
  | with_reducible refine w_drop ?_
  | with_reducible refine w_sFld ?_
  | ((with_reducible refine' w_var ?rdh ?_); (case rdh => exact rfl))
  | with_reducible refine w_c ?_
  | with_reducible refine w_op ?_
  | with_reducible refine w_un ?_
  | with_reducible refine w_I0 ?_
  | with_reducible refine w_U ?_
  | with_reducible refine w_bits ?_
  | with_reducible refine w_bitsI ?_
  | with_reducible refine w_tup ?_
  | with_reducible refine w_lst ?_
  | with_reducible refine w_nil ?_
  | with_reducible refine w_cons ?_
  | with_reducible refine w_fld ?_
  | with_reducible refine w_call ?_
  | with_reducible refine w_make ?_
  | with_reducible refine w_makeD ?_
  | with_reducible refine w_nn ?_
  | with_reducible refine w_subB ?_
  | with_reducible refine w_meth ?_
  | with_reducible refine w_cb ?_
  | with_reducible refine w_test ?_
  | with_reducible refine w_B ?_
  | with_reducible refine w_bl ?_
  | with_reducible refine w_andV ?_
  | with_reducible refine w_orV ?_
  | with_reducible refine w_notV ?_
  | with_reducible refine w_and ?_
  | with_reducible refine w_or ?_
  | with_reducible refine w_not ?_
  | with_reducible refine w_if ?_
  | with_reducible refine w_gnil ?_
  | with_reducible refine w_gcons ?_
  | with_reducible refine iT ?_
  | with_reducible refine iF ?_
  | with_reducible refine w_eqI ?_
  | with_reducible refine w_neI ?_
  | with_reducible refine w_eqS ?_
  | with_reducible refine w_eqIS ?_
  | with_reducible refine w_eqSI ?_)

section
variable {P : Program} {w : World} {K : PySem.W.Frag} {mg : Str → Option Value} {base : Heap} {CF : Addr}
theorem says_int (T : All K mg CF) {H : Hp} {i : Int} : Says K CF H (.int i) true false false false :=
  ⟨_, .base (.int i), kit_ty (by decide +kernel), kit_ty (by decide +kernel), kit_ty (by decide +kernel), T.i_intF⟩
theorem says_bl (T : All K mg CF) {H : Hp} {b : Bool} : Says K CF H (.bl b) false true false false :=
  ⟨_, .base (.bl b), kit_ty (by decide +kernel), kit_ty (by decide +kernel), kit_ty (by decide +kernel), T.i_boolF⟩
theorem says_str (T : All K mg CF) {H : Hp} {x : Str} : Says K CF H (.str x) false false true false :=
  ⟨_, .base (.str x), kit_ty (by decide +kernel), kit_ty (by decide +kernel), kit_ty (by decide +kernel), T.i_strF⟩
theorem says_non (T : All K mg CF) {H : Hp} : Says K CF H .non false false false false :=
  ⟨_, .base .non, kit_ty (by decide +kernel), kit_ty (by decide +kernel), kit_ty (by decide +kernel), T.i_nonF⟩
theorem kit_self (K : PySem.W.Frag) (C : Addr) : PySem.W.kitOne K (.ref C) (.ref C) = some true := by
  unfold PySem.W.kitOne
  rw [if_pos (by simp)]
theorem ty_ins {C : Addr} (c : Cls K C) (y : ClsTy K C) {H : Hp} {a dx : Addr} {fs : List (Str × V)} (h : H a = some (.ins C dx fs)) : TyX K H (.ref a) (.ref C) := .base (.ins h c y.ha y.hn y.htk y.hm)
theorem says_fl (T : All K mg CF) {H : Hp} {a dx : Addr} {fs : List (Str × V)} (h : H a = some (.ins CF dx fs)) : Says K CF H (.ref a) false false false true :=
  ⟨_, ty_ins T.l_Float T.y_Float h, T.i_Fint, T.i_Fbool, T.i_Fstr, kit_self K CF⟩
/-! ### is_plain -/
def spPlain (K : PySem.W.Frag) (CF : Addr) : Sp := fun vs H Q _ => ∃ x pl bo st fl, vs = [x] ∧ Says K CF H x pl bo st fl ∧ Q (.bl ((pl || bo) && !bo)) H
theorem sc_is_plain : FnScope ["number"] ["number"] (defScope s_is_plain) := ⟨rfl, rfl, rfl, by decide +kernel, rfl, by decide +kernel, by decide +kernel⟩
theorem ok_is_plain (T : All K mg CF) : Kn P w K mg base CX0 1 "is_plain" ["number"] (spPlain K CF) := by
  refine T.x_is_plain.kn fun f fd F => ?_
  refine F.ok sc_is_plain (fun vs H Q E h => ?_) (fun cdv A outer s H vs Q E hr h => ?_)
  · obtain ⟨x, pl, bo, st, fl, rfl, _⟩ := h
    rfl
  · obtain ⟨x, pl, bo, st, fl, rfl, ⟨t, ty, i1, i2, i3, i4⟩, q⟩ := h
    refine ⟨_, (pss_one (ps_ret (pe_and (pe_callB call_isi (by rfl) T.b_isinstance boot_isinstance (pa_cons (pv 0) (pa_cons (pe_bltn (by rfl) T.b_int boot_int (rty _)) pa_nil))) (pe_one (pe_not (pe_callB call_isi (by rfl) T.b_isinstance boot_isinstance (pa_cons (pv 0) (pa_cons (pe_bltn (by rfl) T.b_bool boot_bool (rty _)) pa_nil)))))))), ?_⟩
    repeat walk_at "rd"
    refine w_isi (.ty "int") ty i1 ?_
    repeat walk_at "rd"
    refine iB (fun e => ?_) (fun e => ?_)
    · repeat walk_at "rd"
      refine w_isi (.ty "bool") ty i2 ?_
      repeat walk_at "rd"
      rw [e] at q
      exact q
    · repeat walk_at "rd"
      rw [e] at q
      exact q
/-! ### reduced -/
def redV : V → Int → V × Int
  | .int t, p => (.int (red t p).1, (red t p).2)
  | v, _ => (v, 0)
def spReduced : Sp := fun vs H Q _ => ∃ tv p, vs = [tv, .int p] ∧ ((∃ t, tv = .int t ∧ 0 ≤ t) ∨ tv = .str "inf" ∨ tv = .str "nan") ∧
  ∀ q H', Same H H' → H' q = some (.tup [(redV tv p).1, .int (redV tv p).2]) → Q (.ref q) H'
theorem sc_reduced : FnScope ["top", "power", "less"] ["top", "power"] (defScope s_reduced) := ⟨rfl, rfl, rfl, by decide +kernel, rfl, by decide +kernel, by decide +kernel⟩
theorem ok_reduced (T : All K mg CF) : Kn P w K mg base CX0 1 "reduced" ["top", "power"] spReduced := by
  refine T.x_reduced.kn fun f fd F => ?_
  refine F.ok sc_reduced (fun vs H Q E h => ?_) (fun cdv A outer s H vs Q E hr h => ?_)
  · obtain ⟨tv, p, rfl, _⟩ := h
    rfl
  · obtain ⟨tv, p, rfl, c, q⟩ := h
    refine ⟨_, (pss_cons (ps_if (PW.pt (pw_or (pt_cmpR op_in_seq (pv 0) (pe_tup (pa_cons pe_str (pa_cons pe_str pa_nil))) rfl) (pw_or1 (pt_cmpR op_eq (pv 0) pe_int (nomark _))))) (pss_one (ps_ret (pe_tup (pa_cons (pv 0) (pa_cons pe_int pa_nil))))) pss_nil)
      (pss_cons (ps_set (i := 2) sc_reduced.nd rfl (Or.inl rfl) (pe_op op_sub (pe_bits (pe_op op_and (pv 0) (pe_op op_sub pe_int (pv 0)))) pe_int))
      (pss_one (ps_ret (pe_tup (pa_cons (pe_op op_shr (pv 0) (pv 2)) (pa_cons (pe_op op_add (pv 1) (pv 2)) pa_nil))))))), ?_⟩
    repeat walk_at "rd"
    refine w_tup2 fun a1 H1 s1 n1 h1 => ?_
    rcases c with ⟨t, rfl, ht⟩ | rfl | rfl
    · refine w_in h1 rfl rfl ?_
      repeat walk_at "rd"
      refine iF ?_
      repeat walk_at "rd"
      refine iD (fun z => ?_) (fun z => ?_)
      · repeat walk_at "rd"
        refine w_tup2 fun a2 H2 s2 n2 h2 => ?_
        repeat walk_at "rd"
        refine q a2 H2 (s1.trans s2) ?_
        subst z
        show H2 a2 = some (.tup [.int (red 0 p).1, .int (red 0 p).2])
        rw [red_zero]
        exact h2
      · repeat walk_at "rd"
        refine w_I (by obtain ⟨k, m, _, _, e⟩ := less_spec (t := t) (by omega); show 0 ≤ less t; omega) ?_
        repeat walk_at "rd"
        refine w_tup2 fun a2 H2 s2 n2 h2 => ?_
        repeat walk_at "rd"
        refine q a2 H2 (s1.trans s2) ?_
        show H2 a2 = some (.tup [.int (red t p).1, .int (red t p).2])
        unfold red
        rw [if_neg z]
        exact h2
    all_goals
      refine w_in h1 rfl rfl ?_
      repeat walk_at "rd"
      refine iT ?_
      repeat walk_at "rd"
      refine w_tup2 fun a2 H2 s2 n2 h2 => ?_
      repeat walk_at "rd"
      exact q a2 H2 (s1.trans s2) h2
/-! ### fits -/
def spFits : Sp := fun vs H Q _ => ∃ t p, vs = [.int t, .int p] ∧ Q (.bl (fitsB t p)) H
theorem sc_fits : FnScope ["top", "power"] ["top", "power"] (defScope s_fits) := ⟨rfl, rfl, rfl, by decide +kernel, rfl, by decide +kernel, by decide +kernel⟩
theorem ok_fits (T : All K mg CF) : Kn P w K mg base CX0 1 "fits" ["top", "power"] spFits := by
  refine T.x_fits.kn fun f fd F => ?_
  refine F.ok sc_fits (fun vs H Q E h => ?_) (fun cdv A outer s H vs Q E hr h => ?_)
  · obtain ⟨t, p, rfl, _⟩ := h
    rfl
  · obtain ⟨t, p, rfl, q⟩ := h
    refine ⟨_, (pss_one (ps_ret (pe_or (pe_and (pe_cmpR op_lt (pv 0) (pgE "ROOM" T.c_ROOM) (nomark _)) (pe_and (pe_cmpR op_ge (pv 1) (pgE "LOWEST" T.c_LOWEST) (nomark _)) (pe_one (pe_cmpR op_le (pe_op op_add (pe_bits (pv 0)) (pv 1)) (pgE "TOO_GREAT" T.c_TOO_GREAT) (nomark _))))) (pe_one (pe_cmpR op_eq (pv 0) pe_int (nomark _)))))), ?_⟩
    unfold fitsB at q
    repeat walk_at "rd"
    refine iD (fun c1 => ?_) (fun c1 => ?_)
    · rw [decide_eq_true c1, Bool.true_and] at q
      repeat walk_at "rd"
      refine iD (fun c2 => ?_) (fun c2 => ?_)
      · rw [decide_eq_true c2, Bool.true_and] at q
        repeat walk_at "rd"
        refine iD (fun c3 => ?_) (fun c3 => ?_)
        · rw [decide_eq_true (show bits t + p ≤ 1024 from c3), Bool.true_or] at q
          repeat walk_at "rd"
          exact q
        · rw [decide_eq_false (show ¬ bits t + p ≤ 1024 from c3), Bool.false_or] at q
          repeat walk_at "rd"
          exact q
      · rw [decide_eq_false c2, Bool.false_and, Bool.false_or] at q
        repeat walk_at "rd"
        exact q
    · rw [decide_eq_false c1, Bool.false_and, Bool.false_or] at q
      repeat walk_at "rd"
      exact q
/-! ### sign_of -/
def spSign : Sp := fun vs H Q _ => ∃ b, vs = [.bl b] ∧ Q (.int (if b = true then -1 else 1)) H
theorem sc_sign_of : FnScope ["is_negative"] ["is_negative"] (defScope s_sign_of) := ⟨rfl, rfl, rfl, by decide +kernel, rfl, by decide +kernel, by decide +kernel⟩
theorem ok_sign_of (T : All K mg CF) : Kn P w K mg base CX0 1 "sign_of" ["is_negative"] spSign := by
  refine T.x_sign_of.kn fun f fd F => ?_
  refine F.ok sc_sign_of (fun vs H Q E h => ?_) (fun cdv A outer s H vs Q E hr h => ?_)
  · obtain ⟨b, rfl, _⟩ := h
    rfl
  · obtain ⟨b, rfl, q⟩ := h
    refine ⟨_, (pss_one (ps_ret (pe_ifExp (pt_val (pv 0)) (pe_un un_neg pe_int) pe_int))), ?_⟩
    repeat walk_at "rd"
    cases b with
    | true =>
      refine iT ?_
      repeat walk_at "rd"
      exact q
    | false =>
      refine iF ?_
      repeat walk_at "rd"
      exact q
/-! ### Float(sign, top, power) -/
/-- the arguments that make the float f -/
def Arg (s : Int) (tv : V) (p : Int) (f : Fl) : Prop :=
  (∃ t, tv = .int t ∧ 0 ≤ t ∧ (s = 1 ∨ s = -1) ∧ fitsB (red t p).1 (red t p).2 = true ∧ f = .fin s (red t p).1 (red t p).2) ∨
  (tv = .str "inf" ∧ p = 0 ∧ (s = 1 ∨ s = -1) ∧ f = .inf s) ∨ (tv = .str "nan" ∧ p = 0 ∧ s = 1 ∧ f = .nan)
theorem Arg.redV {s p : Int} {tv : V} {f : Fl} (a : Arg s tv p f) : f.s = s ∧ f.t = (redV tv p).1 ∧ f.p = (redV tv p).2 := by
  rcases a with ⟨t, rfl, _, _, _, rfl⟩ | ⟨rfl, _, _, rfl⟩ | ⟨rfl, _, rfl, rfl⟩ <;> exact ⟨rfl, rfl, rfl⟩
theorem Arg.ok {s p : Int} {tv : V} {f : Fl} (a : Arg s tv p f) : f.ok := by
  rcases a with ⟨t, rfl, h0, hs, hf, rfl⟩ | ⟨rfl, _, hs, rfl⟩ | ⟨rfl, _, rfl, rfl⟩
  · by_cases z : t = 0
    · subst z
      rw [red_zero]
      exact ⟨hs, by decide, by decide, fun _ => rfl, fun h => absurd rfl h⟩
    · obtain ⟨k, m, hm, e, r⟩ := red_spec (t := t) (by omega) p
      rw [r] at hf ⊢
      unfold fitsB at hf
      have z2 : ¬ 2 * m + 1 = 0 := by omega
      rw [decide_eq_false z2, Bool.or_false, Bool.and_eq_true, Bool.and_eq_true, decide_eq_true_eq, decide_eq_true_eq, decide_eq_true_eq] at hf
      exact ⟨hs, by omega, hf.1, fun h => absurd h z2, fun _ => ⟨hf.2.1, hf.2.2, by omega⟩⟩
  · exact hs
  · exact trivial
def spInit (C : Addr) : Sp := fun vs H Q _ => ∃ x dx s tv p f, vs = [.ref x, .int s, tv, .int p] ∧ H x = some (.ins C dx []) ∧ Arg s tv p f ∧
  ∀ H', (∀ b o, b ≠ x → H b = some o → H' b = some o) → H' x = some (.ins C dx (flds f.s f.t f.p)) → Q .non H'
theorem u_plain_int (T : All K mg CF) {i : Int} {H : Hp} {Q : VK} {E : XK} (q : Q (.bl true) H) : spPlain K CF ([V.int i] ++ []) H Q E :=
  ⟨.int i, true, false, false, false, rfl, says_int T, q⟩
theorem u_reduced {tv : V} {p : Int} {H : Hp} {Q : VK} {E : XK} (c : (∃ t, tv = .int t ∧ 0 ≤ t) ∨ tv = .str "inf" ∨ tv = .str "nan") (q : ∀ a H', Same H H' → H' a = some (.tup [(redV tv p).1, .int (redV tv p).2]) → Q (.ref a) H') :
    spReduced ([tv, V.int p] ++ []) H Q E := ⟨tv, p, rfl, c, q⟩
theorem u_fits {t p : Int} {H : Hp} {Q : VK} {E : XK} (q : Q (.bl (fitsB t p)) H) : spFits ([V.int t, V.int p] ++ []) H Q E := ⟨t, p, rfl, q⟩
theorem w_gFld {to : TE} {f : Str} {v : V} {σ : L2.St} {H : Hp} {Q : L2.St → Hp → Prop} (h : to σ H fun x H1 => ∃ a C dx fs, x = .ref a ∧ H1 a = some (.ins C dx fs) ∧ Cls K C ∧ NoAttr K C f ∧ fs.length < 1000 ∧ Q σ (upd H1 a (.ins C dx (putF f v fs)))) : gFld K to f v σ H Q := h
theorem putF_s (s : Int) : putF "sign" (.int s) [] = [(("sign" : Str), V.int s)] := rfl
theorem len_put (f : Str) (v : V) (fs : List (Str × V)) {n : Nat} (h : fs.length < n) (hn : n < 1000) : (putF f v fs).length < 1000 := by
  have := length_putF f v fs
  omega
theorem lenf (s : Int) (t : V) (p : Int) : (flds s t p).length < 1000 := by
  unfold flds
  have a := length_putF "power" (.int p) (putF "top" t (putF "sign" (.int s) []))
  have b := length_putF "top" t (putF "sign" (.int s) [])
  have c := length_putF "sign" (.int s) []
  simp at c
  omega
theorem sc_Float_init : FnScope ["self", "sign", "top", "power"] ["self", "sign", "top", "power"] (defScope s_Float_init) := ⟨rfl, rfl, rfl, by decide +kernel, rfl, by decide +kernel, by decide +kernel⟩
theorem ok_init (T : All K mg CF) (k_is_plain : Kn P w K mg base CX0 1 "is_plain" ["number"] (spPlain K CF)) (k_reduced : Kn P w K mg base CX0 1 "reduced" ["top", "power"] spReduced) (k_fits : Kn P w K mg base CX0 1 "fits" ["top", "power"] spFits) :
    KnC P w K mg base CX0 2 "Float" CF ["self", "sign", "top", "power"] (spInit CF) := by
  refine T.x_init.kn fun f fd F => ?_
  refine F.ok sc_Float_init (fun vs H Q E h => ?_) (fun cdv A outer s H vs Q E hr h => ?_)
  · obtain ⟨x, dx, s, tv, p, f, rfl, _⟩ := h
    rfl
  · obtain ⟨x, dx, s, tv, p, f, rfl, hx, a, q⟩ := h
    refine ⟨_, (pss_cons (ps_if (PW.pt (pw_or (pt_not (pt_val (pk k_is_plain hr (pa_cons (pv 1) pa_nil)))) (pw_or1 (pt_cmpR op_notIn_seq (pv 1) (pe_tup (pa_cons pe_int (pa_cons (pe_un un_neg pe_int) pa_nil))) rfl)))) (pss_one ps_never) pss_nil)
      (C8.pss_cut (ps_if (PW.pt (pw_and (pt_val (pe_callB call_isi (by rfl) T.b_isinstance boot_isinstance (pa_cons (pv 2) (pa_cons (pe_bltn (by rfl) T.b_str boot_str (rty _)) pa_nil)))) (pw_and1 (pt_cmpR op_in_seq (pv 2) (pe_tup (pa_cons pe_str (pa_cons pe_str pa_nil))) rfl)))) (pss_cons (ps_if (PW.pt (pw_and (pt_cmpR op_eq (pv 2) pe_str (nomark _)) (pw_and1 (pt_cmpR op_eq (pv 1) (pe_un un_neg pe_int) (nomark _))))) (pss_one ps_never) pss_nil)
      (pss_one (ps_if (PW.pt (pw_or (pt_not (pt_val (pk k_is_plain hr (pa_cons (pv 3) pa_nil)))) (pw_or1 (pt_cmpR op_ne (pv 3) pe_int (nomark _))))) (pss_one ps_never) pss_nil))) (pss_one (ps_if (PW.pt (pw_or (pt_not (pt_val (pk k_is_plain hr (pa_cons (pv 2) pa_nil)))) (pw_or1 (pt_cmpR op_lt (pv 2) pe_int (nomark _))))) (pss_one ps_never) (pss_one (ps_if (pt_not (pt_val (pk k_is_plain hr (pa_cons (pv 3) pa_nil)))) (pss_one ps_never) pss_nil)))))
      (pss_cons (ps_fld (pv 0) (pv 1) rfl)
      (pss_cons (ps_asg (pk k_reduced hr (pa_cons (pv 2) (pa_cons (pv 3) pa_nil))) (pg_tup (by rfl) (pgs_cons (pg_fld (pv 0)) (pgs_cons (pg_fld (pv 0)) pgs_nil))))
      (pss_one (ps_if (PW.pt (pw_and (pt_cmpR op_notIn_seq (pe_fld (pv 0) rfl) (pe_tup (pa_cons pe_str (pa_cons pe_str pa_nil))) rfl) (pw_and1 (pt_not (pt_val (pk k_fits hr (pa_cons (pe_fld (pv 0) rfl) (pa_cons (pe_fld (pv 0) rfl) pa_nil)))))))) (pss_one ps_never) pss_nil)))))), ?_⟩
    have hs : s = 1 ∨ s = -1 := by rcases a with ⟨t, _, _, h, _, _⟩ | ⟨_, _, h, _⟩ | ⟨_, _, h, _⟩ <;> first | exact h | exact .inl h
    repeat walk_at "rd"
    refine u_plain_int T ?_
    repeat walk_at "rd"
    refine iF ?_
    repeat walk_at "rd"
    refine w_tup2 fun a1 H1 s1 n1 h1 => ?_
    refine w_nin h1 rfl rfl ?_
    repeat walk_at "rd"
    have e1 : (!inV (V.int s) [V.int 1, V.int (-1)]) = false := by rcases hs with rfl | rfl <;> rfl
    rw [e1]
    refine iF ?_
    repeat walk_at "rd"
    refine w_cut (Mid := fun σ' H' => σ' = start ["self", "sign", "top", "power"] [.ref x, .int s, tv, .int p] ∧ Same H H') ?_ ?_
    · repeat walk_at "rd"
      rcases a with ⟨t, rfl, h0, _, hf, rfl⟩ | ⟨rfl, rfl, _, rfl⟩ | ⟨rfl, rfl, rfl, rfl⟩
      · refine w_isi (.ty "str") (.base (.int t)) (kit_ty (b := "str") (r := false) (by decide +kernel)) ?_
        repeat walk_at "rd"
        refine u_plain_int T ?_
        repeat walk_at "rd"
        refine iF ?_
        repeat walk_at "rd"
        refine iD (fun z => by omega) (fun _ => ?_)
        repeat walk_at "rd"
        refine u_plain_int T ?_
        repeat walk_at "rd"
        refine iF ?_
        repeat walk_at "rd"
        exact ⟨rfl, s1⟩
      · refine w_isi (.ty "str") (.base (.str _)) (kit_ty (b := "str") (r := true) (by decide +kernel)) ?_
        repeat walk_at "rd"
        refine w_tup2 fun a2 H2 s2 n2 h2 => ?_
        refine w_in h2 rfl rfl ?_
        repeat walk_at "rd"
        refine iT ?_
        repeat walk_at "rd"
        refine iD (fun z => absurd z (by decide +kernel)) (fun _ => ?_)
        repeat walk_at "rd"
        refine u_plain_int T ?_
        repeat walk_at "rd"
        refine iF ?_
        repeat walk_at "rd"
        refine iN (fun z => absurd rfl z) (fun _ => ?_)
        repeat walk_at "rd"
        exact ⟨rfl, s1.trans s2⟩
      · refine w_isi (.ty "str") (.base (.str _)) (kit_ty (b := "str") (r := true) (by decide +kernel)) ?_
        repeat walk_at "rd"
        refine w_tup2 fun a2 H2 s2 n2 h2 => ?_
        refine w_in h2 rfl rfl ?_
        repeat walk_at "rd"
        refine iT ?_
        repeat walk_at "rd"
        refine iD (fun _ => ?_) (fun z => absurd rfl z)
        repeat walk_at "rd"
        refine iD (fun z => absurd z (by decide)) (fun _ => ?_)
        repeat walk_at "rd"
        refine u_plain_int T ?_
        repeat walk_at "rd"
        refine iF ?_
        repeat walk_at "rd"
        refine iN (fun z => absurd rfl z) (fun _ => ?_)
        repeat walk_at "rd"
        exact ⟨rfl, s1.trans s2⟩
    · rintro σ' H3 ⟨rfl, s3⟩
      obtain ⟨e1, e2, e3⟩ := a.redV
      have hx3 := s3 _ _ hx
      repeat walk_at "rd"
      refine w_sfI hx3 T.l_Float T.n_sign (by decide) ?_
      repeat walk_at "rd"
      refine u_reduced (by rcases a with ⟨t, rfl, h0, _⟩ | ⟨rfl, _⟩ | ⟨rfl, _⟩ <;> first | exact .inl ⟨_, rfl, h0⟩ | exact .inr (.inl rfl) | exact .inr (.inr rfl)) fun a4 H4 s4 h4 => ?_
      have hx4 : H4 x = some (.ins CF dx (putF "sign" (.int s) [])) := s4 _ _ upd_same
      refine w_gtup h4 rfl ?_
      repeat walk_at "rd"
      refine w_gFld ?_
      repeat walk_at "rd"
      refine w_sfI hx4 T.l_Float T.n_top (by show 1 < 1000; decide) ?_
      repeat walk_at "rd"
      refine w_gFld ?_
      repeat walk_at "rd"
      refine w_sfI upd_same T.l_Float T.n_power (len_put _ _ _ (n := 2) (by show 1 < 2; decide) (by decide)) ?_
      repeat walk_at "rd"
      rw [upd_upd]
      have ef : (putF "power" (.int (redV tv p).2) (putF "top" (redV tv p).1 (putF "sign" (.int s) []))) = flds f.s f.t f.p := by rw [e1, e2, e3]; rfl
      rw [ef]
      generalize eH5 : upd H4 x (.ins CF dx (flds f.s f.t f.p)) = H5
      have hx5 : H5 x = some (.ins CF dx (flds f.s f.t f.p)) := by rw [← eH5]; exact upd_same
      have k5 : ∀ b o, b ≠ x → H b = some o → H5 b = some o := fun b o hb e => by
        rw [← eH5, upd_ne hb]
        exact s4 _ _ (by rw [upd_ne hb]; exact s3 _ _ e)
      refine w_fldI hx5 T.l_Float T.n_top (flds_t _ _ _) ?_
      repeat walk_at "rd"
      refine w_tup2 fun a6 H6 s6 n6 h6 => ?_
      have hx6 := s6 _ _ hx5
      have k6 : ∀ b o, b ≠ x → H b = some o → H6 b = some o := fun b o hb e => s6 _ _ (k5 b o hb e)
      rcases a with ⟨t, rfl, h0, _, hf, rfl⟩ | ⟨rfl, rfl, _, rfl⟩ | ⟨rfl, rfl, rfl, rfl⟩
      · refine w_nin h6 rfl rfl ?_
        repeat walk_at "rd"
        refine iT ?_
        repeat walk_at "rd"
        refine w_fldI hx6 T.l_Float T.n_top (flds_t _ _ _) ?_
        repeat walk_at "rd"
        refine w_fldI hx6 T.l_Float T.n_power (flds_p _ _ _) ?_
        repeat walk_at "rd"
        refine u_fits ?_
        repeat walk_at "rd"
        show if (!fitsB (red t p).1 (red t p).2) = true then _ else _
        rw [hf]
        refine iF ?_
        repeat walk_at "rd"
        exact q H6 k6 hx6
      all_goals
        refine w_nin h6 rfl rfl ?_
        repeat walk_at "rd"
        refine iF ?_
        refine iF ?_
        repeat walk_at "rd"
        exact q H6 k6 hx6
/-- Float(s, tv, p) makes f -/
theorem u_Float {s p : Int} {tv : V} {f : Fl} {H : Hp} {Q : VK} {E : XK} (a : Arg s tv p f) (q : ∀ x H', Same H H' → H x = none → FlAt CF H' x f → Q (.ref x) H') : MakeK CF (spInit CF) [.int s, tv, .int p] H Q E := by
  intro x dx hx hdx ne
  refine ⟨x, dx, s, tv, p, f, rfl, upd_same, a, fun H' k hx' => ⟨rfl, q x H' (fun b o e => k b o (ne_of_none e hx) ?_) hx ⟨dx, hx'⟩⟩⟩
  rw [upd_ne (ne_of_none e hx), upd_ne (ne_of_none e hdx)]
  exact e
end
end Nu

set_option Elab.async false
set_option linter.all false
set_option maxRecDepth 100000
set_option autoImplicit false
set_option maxHeartbeats 4000000
namespace Nu
open PySem PySem.Spec PyProof.Rows L2 Rd
local macro_rules | `(tactic| walk_at "hp") => `(tactic| first | assumption | (refine same_get ?sm ?_; (case sm => assumption); walk_at "hp"))
local macro_rules | `(tactic| walk_at "rd") => `(tactic| first
  | with_reducible refine w_nx ?_
  | with_reducible refine w_rt ?_
  | with_reducible refine w_bk ?_
  | with_reducible refine w_ct ?_
  | with_reducible refine w_seq ?_
  | with_reducible refine w_next ?_
  | with_reducible refine w_ret ?_
  | with_reducible refine w_ifS ?_
  | with_reducible refine w_asg ?_
  | with_reducible refine w_name ?_
  | with_reducible refine w_par ?_
  | with_reducible refine w_parI ?_
  | with_reducible refine w_ii ?_
  | with_reducible refine w_i1 ?_
  | with_reducible refine w_drop ?_
  | with_reducible refine w_sFld ?_
  | ((with_reducible refine' w_var ?rdh ?_); (case rdh => exact rfl))
  | with_reducible refine w_c ?_
  | with_reducible refine w_op ?_
  | with_reducible refine w_un ?_
  | with_reducible refine w_I0 ?_
  | with_reducible refine w_U ?_
  | with_reducible refine w_bits ?_
  | with_reducible refine w_bitsI ?_
  | with_reducible refine w_tup ?_
  | with_reducible refine w_lst ?_
  | with_reducible refine w_nil ?_
  | with_reducible refine w_cons ?_
  | with_reducible refine w_fld ?_
  | with_reducible refine w_call ?_
  | with_reducible refine w_make ?_
  | with_reducible refine w_makeD ?_
  | with_reducible refine w_nn ?_
  | with_reducible refine w_subB ?_
  | with_reducible refine w_meth ?_
  | with_reducible refine w_cb ?_
  | with_reducible refine w_test ?_
  | with_reducible refine w_B ?_
  | with_reducible refine w_bl ?_
  | with_reducible refine w_andV ?_
  | with_reducible refine w_orV ?_
  | with_reducible refine w_notV ?_
  | with_reducible refine w_and ?_
  | with_reducible refine w_or ?_
  | with_reducible refine w_not ?_
  | with_reducible refine w_if ?_
  | with_reducible refine w_gnil ?_
  | with_reducible refine w_gcons ?_
  | with_reducible refine iT ?_
  | with_reducible refine iF ?_
  | with_reducible refine w_eqI ?_
  | with_reducible refine w_neI ?_
  | with_reducible refine w_eqS ?_
  | with_reducible refine w_eqIS ?_
  | with_reducible refine w_eqSI ?_)

section
variable {P : Program} {w : World} {K : PySem.W.Frag} {mg : Str → Option Value} {base : Heap} {CF : Addr}
/-- a new float -/
def NewF (CF : Addr) (f : Fl) (H : Hp) (Q : VK) : Prop := ∀ x H', Same H H' → H x = none → FlAt CF H' x f → Q (.ref x) H'
/-! ### infinity -/
def spInf (CF : Addr) : Sp := fun vs H Q _ => ∃ s, vs = [.int s] ∧ (s = 1 ∨ s = -1) ∧ NewF CF (.inf s) H Q
theorem sc_infinity : FnScope ["sign"] ["sign"] (defScope s_infinity) := ⟨rfl, rfl, rfl, by decide +kernel, rfl, by decide +kernel, by decide +kernel⟩
theorem ok_infinity (T : All K mg CF) (k_Float_init : KnC P w K mg base CX0 2 "Float" CF ["self", "sign", "top", "power"] (spInit CF)) : Kn P w K mg base CX0 4 "infinity" ["sign"] (spInf CF) := by
  refine T.x_infinity.kn fun f fd F => ?_
  refine F.ok sc_infinity (fun vs H Q E h => ?_) (fun cdv A outer s H vs Q E hr h => ?_)
  · obtain ⟨s, rfl, _⟩ := h
    rfl
  · obtain ⟨s, rfl, hs, q⟩ := h
    refine ⟨_, (pss_one (ps_ret (pkC k_Float_init hr (pa_cons (pv 0) (pa_cons pe_str (pa_cons pe_int pa_nil)))))), ?_⟩
    repeat walk_at "rd"
    refine u_Float (.inr (.inl ⟨rfl, rfl, hs, rfl⟩)) fun x H' s1 n1 h1 => ?_
    exact q x H' s1 n1 h1
/-! ### nearest -/
def nearM (s t b : Int) : Fl := if t = 0 then .fin s 0 0 else if 1024 < bits (wh t b) + p2 t b then .inf s else .fin s (red (wh t b) (p2 t b)).1 (red (wh t b) (p2 t b)).2
def spNear (CF : Addr) : Sp := fun vs H Q _ => ∃ s t b, vs = [.int s, .int t, .int b] ∧ (s = 1 ∨ s = -1) ∧ 0 ≤ t ∧ 0 < b ∧ bits t ≤ 2200 ∧ bits b ≤ 2200 ∧ NewF CF (nearM s t b) H Q
theorem cshl {i j : Int} (h : bits i ≤ 10000) (h0 : 0 ≤ j) (h1 : j ≤ 10000) : CShl i j := by
  refine ⟨h0, ?_⟩
  have e : (2 : Int) ^ 27 = 134217728 := by decide
  rw [e]
  have : bits i = (Builtin.Int.intBits i : Nat) := rfl
  omega
theorem cdivw {i j : Int} (h : 0 < j) (hb : bits j ≤ 8000) : CDivW i j := by
  have := (bits_le (n := j) (k := 8000)).1 (by omega)
  exact wide_div h this (by decide) (by decide)
theorem cdivp {i j : Int} (h : 0 < j) (hb : bits i ≤ 4000) : CDivP i j := by
  refine divp_ok h ?_
  have : bits i = (Builtin.Int.intBits i : Nat) := rfl
  omega
theorem cmulx {i j : Int} (h : bits i ≤ 100000) (hb : bits j ≤ 100000) : CMulX i j := by
  unfold CMulX
  have : bits i = (Builtin.Int.intBits i : Nat) := rfl
  have : bits j = (Builtin.Int.intBits j : Nat) := rfl
  omega
theorem sc_nearest : FnScope ["sign", "top", "bottom", "power", "whole", "rest"] ["sign", "top", "bottom"] (defScope s_nearest) := ⟨rfl, rfl, rfl, by decide +kernel, rfl, by decide +kernel, by decide +kernel⟩
theorem ok_nearest (T : All K mg CF) (k_Float_init : KnC P w K mg base CX0 2 "Float" CF ["self", "sign", "top", "power"] (spInit CF)) (k_infinity : Kn P w K mg base CX0 4 "infinity" ["sign"] (spInf CF)) :
    Kn P w K mg base CX0 5 "nearest" ["sign", "top", "bottom"] (spNear CF) := by
  refine T.x_nearest.kn fun f fd F => ?_
  refine F.ok sc_nearest (fun vs H Q E h => ?_) (fun cdv A outer s H vs Q E hr h => ?_)
  · obtain ⟨s, t, b, rfl, _⟩ := h
    rfl
  · obtain ⟨s, t, b, rfl, hs, ht, hb, bt, bb, q⟩ := h
    refine ⟨_, (pss_cons (ps_if (pt_cmpR op_eq (pv 1) pe_int (nomark _)) (pss_one (ps_ret (pkC k_Float_init hr (pa_cons (pv 0) (pa_cons pe_int (pa_cons pe_int pa_nil)))))) pss_nil)
      (pss_cons (ps_set (i := 3) sc_nearest.nd rfl (Or.inl rfl) (pe_callB (call_max2 rfl) (by rfl) T.b_max boot_max (pa_cons (pe_op op_sub (pe_op op_sub (pe_bits (pv 1)) (pe_bits (pv 2))) pe_int) (pa_cons (pgE "LOWEST" T.c_LOWEST) pa_nil))))
      (C8.pss_cut (ps_if (pt_cmpR op_lt (pv 3) pe_int (nomark _)) (pss_one (ps_set (i := 1) sc_nearest.nd rfl (Or.inl rfl) (pe_op op_shlW (pv 1) (pe_op op_sub pe_int (pv 3))))) (pss_one (ps_set (i := 2) sc_nearest.nd rfl (Or.inl rfl) (pe_op op_shlW (pv 2) (pv 3)))))
      (C8.pss_cut (ps_if (pt_cmpR op_ge (pe_op op_fdivW (pv 1) (pv 2)) (pgE "ROOM" T.c_ROOM) (nomark _)) (pss_cons (ps_set (i := 2) sc_nearest.nd rfl (Or.inl rfl) (pe_op op_shlW (pv 2) pe_int))
      (pss_one (ps_set (i := 3) sc_nearest.nd rfl (Or.inl rfl) (pe_op op_add (pv 3) pe_int)))) pss_nil)
      (pss_cons (ps_asg (pe_callB call_divmodW (by rfl) T.b_divmod boot_divmod (pa_cons (pv 1) (pa_cons (pv 2) pa_nil))) (pg_tup (by rfl) (pgs_cons (pg_name (i := 4) sc_nearest.nd rfl (Or.inl rfl)) (pgs_cons (pg_name (i := 5) sc_nearest.nd rfl (Or.inl rfl)) pgs_nil))))
      (C8.pss_cut (ps_if (PW.pt (pw_or (pt_cmpR op_gt (pe_op op_mulX pe_int (pv 5)) (pv 2) (nomark _)) (pw_or1 (PW.pt (pw_and (pt_cmpR op_eq (pe_op op_mulX pe_int (pv 5)) (pv 2) (nomark _)) (pw_and1 (pt_cmpR op_eq (pe_op op_and (pv 4) pe_int) pe_int (nomark _)))))))) (pss_one (ps_set (i := 4) sc_nearest.nd rfl (Or.inl rfl) (pe_op op_add (pv 4) pe_int))) pss_nil)
      (pss_cons (ps_if (pt_cmpR op_gt (pe_op op_add (pe_bits (pv 4)) (pv 3)) (pgE "TOO_GREAT" T.c_TOO_GREAT) (nomark _)) (pss_one (ps_ret (pk k_infinity hr (pa_cons (pv 0) pa_nil)))) pss_nil)
      (pss_one (ps_ret (pkC k_Float_init hr (pa_cons (pv 0) (pa_cons (pv 4) (pa_cons (pv 3) pa_nil))))))))))))), ?_⟩
    repeat walk_at "rd"
    refine iD (fun z => ?_) (fun z => ?_)
    · repeat walk_at "rd"
      subst z
      refine u_Float (.inl ⟨0, rfl, by decide, hs, by rw [red_zero]; decide, rfl⟩) fun x H' s1 n1 h1 => ?_
      refine q x H' s1 n1 ?_
      unfold nearM
      rw [if_pos rfl]
      rw [red_zero] at h1
      exact h1
    · repeat walk_at "rd"
      rw [show (if (-1074 : Int) > ((Builtin.Int.intBits t : Nat) : Int) - ((Builtin.Int.intBits b : Nat) : Int) - 53 then (-1074 : Int) else ((Builtin.Int.intBits t : Nat) : Int) - ((Builtin.Int.intBits b : Nat) : Int) - 53) = pw t b from rfl]
      have g1 := pw_ge (t := t) (b := b)
      have g2 := pw_le (t := t) (b := b) bt
      repeat walk_at "rd"
      refine w_cut (Mid := fun σ' H' => σ' = [some (.int s), some (.int (t1 t b)), some (.int (b1 t b)), some (.int (pw t b)), none, none] ∧ H' = H) ?_ ?_
      · repeat walk_at "rd"
        refine iD (fun c => ?_) (fun c => ?_)
        · repeat walk_at "rd"
          refine w_I (cshl (by omega) (by omega) (by omega)) ?_
          repeat walk_at "rd"
          refine ⟨?_, rfl⟩
          unfold t1 b1
          rw [if_pos c, if_pos c]
          rfl
        · repeat walk_at "rd"
          refine w_I (cshl (by omega) (by omega) (by omega)) ?_
          repeat walk_at "rd"
          refine ⟨?_, rfl⟩
          unfold t1 b1
          rw [if_neg c, if_neg c]
          rfl
      rintro σ' H' ⟨rfl, rfl⟩
      have h1 := b1_pos (t := t) hb
      have h2 := b2_pos (t := t) hb
      have h3 := b1_bits hb bt bb
      have h4 := b2_bits hb bt bb
      have h5 := t1_bits (b := b) ht bt
      refine w_cut (Mid := fun σ' H'' => σ' = [some (.int s), some (.int (t1 t b)), some (.int (b2 t b)), some (.int (p2 t b)), none, none] ∧ H'' = H') ?_ ?_
      · repeat walk_at "rd"
        refine w_I (cdivw h1 (by omega)) ?_
        repeat walk_at "rd"
        refine iD (fun c => ?_) (fun c => ?_)
        · repeat walk_at "rd"
          refine w_I (cshl (by omega) (by omega) (by omega)) ?_
          repeat walk_at "rd"
          refine ⟨?_, rfl⟩
          unfold b2 p2
          rw [if_pos c, if_pos c]
          rfl
        · repeat walk_at "rd"
          refine ⟨?_, rfl⟩
          unfold b2 p2
          rw [if_neg c, if_neg c]
      rintro σ' H'' ⟨rfl, rfl⟩
      repeat walk_at "rd"
      refine ⟨cdivp h2 (by omega), fun a1 n1 => ?_⟩
      have s1 := same_upd (o := .tup [.int (t1 t b / b2 t b), .int (t1 t b % b2 t b)]) n1
      have e1 := upd_same (H := H'') (a := a1) (o := .tup [.int (t1 t b / b2 t b), .int (t1 t b % b2 t b)])
      generalize upd H'' a1 (.tup [.int (t1 t b / b2 t b), .int (t1 t b % b2 t b)]) = H1 at s1 e1 ⊢
      refine w_gtup e1 rfl ?_
      repeat walk_at "rd"
      rw [show t1 t b / b2 t b = wq t b from rfl, show t1 t b % b2 t b = wr t b from rfl]
      have r0 := wr_nn (t := t) hb
      have r1 := wr_lt (t := t) hb
      have rb : bits (wr t b) ≤ 4401 := Int.le_trans (bits_mono r0 (Int.le_of_lt r1)) h4
      refine w_cut (Mid := fun σ' H'' => σ' = [some (.int s), some (.int (t1 t b)), some (.int (b2 t b)), some (.int (p2 t b)), some (.int (wh t b)), some (.int (wr t b))] ∧ H'' = H1) ?_ ?_
      · have up : goesUp t b → wh t b = wq t b + 1 := fun c => if_pos c
        have dn : ¬ goesUp t b → wh t b = wq t b := fun c => if_neg c
        repeat walk_at "rd"
        refine w_I (cmulx (by decide) (by omega)) ?_
        repeat walk_at "rd"
        refine iD (fun c => ?_) (fun c => ?_)
        · refine iT ?_
          repeat walk_at "rd"
          refine ⟨?_, rfl⟩
          rw [up (.inl c)]
          rfl
        · repeat walk_at "rd"
          refine w_I (cmulx (by decide) (by omega)) ?_
          repeat walk_at "rd"
          refine iD (fun c2 => ?_) (fun c2 => ?_)
          · repeat walk_at "rd"
            refine iD (fun c3 => ?_) (fun c3 => ?_)
            · repeat walk_at "rd"
              refine ⟨?_, rfl⟩
              rw [up (.inr ⟨c2, c3⟩)]
              rfl
            · repeat walk_at "rd"
              refine ⟨?_, rfl⟩
              rw [dn (fun h => h.elim c fun h => c3 h.2)]
              rfl
          · repeat walk_at "rd"
            refine ⟨?_, rfl⟩
            rw [dn (fun h => h.elim c fun h => c2 h.1)]
            rfl
      rintro σ' H3 ⟨rfl, rfl⟩
      repeat walk_at "rd"
      refine iD (fun c => ?_) (fun c => ?_)
      · repeat walk_at "rd"
        refine ⟨s, rfl, hs, fun x H' s2 n2 h2 => ?_⟩
        refine q x H' (s1.trans s2) (s1.free n2) ?_
        unfold nearM
        rw [if_neg z, if_pos c]
        exact h2
      · repeat walk_at "rd"
        refine u_Float (.inl ⟨wh t b, rfl, wh_nn ht hb, hs, wh_fits ht hb (Int.not_lt.mp c), rfl⟩) fun x H' s2 n2 h2 => ?_
        refine q x H' (s1.trans s2) (s1.free n2) ?_
        unfold nearM
        rw [if_neg z, if_neg c]
        exact h2
end
end Nu

set_option Elab.async false
set_option linter.all false
set_option maxRecDepth 100000
set_option autoImplicit false
set_option maxHeartbeats 4000000
namespace Nu
open PySem PySem.Spec PyProof.Rows L2 Rd
local macro_rules | `(tactic| walk_at "hp") => `(tactic| first | assumption | (refine same_get ?sm ?_; (case sm => assumption); walk_at "hp"))
local macro_rules | `(tactic| walk_at "rd") => `(tactic| first
  | with_reducible refine w_nx ?_
  | with_reducible refine w_rt ?_
  | with_reducible refine w_bk ?_
  | with_reducible refine w_ct ?_
  | with_reducible refine w_seq ?_
  | with_reducible refine w_next ?_
  | with_reducible refine w_ret ?_
  | with_reducible refine w_ifS ?_
  | with_reducible refine w_asg ?_
  | with_reducible refine w_name ?_
  | with_reducible refine w_par ?_
  | with_reducible refine w_parI ?_
  | with_reducible refine w_ii ?_
  | with_reducible refine w_i1 ?_
  | with_reducible refine w_drop ?_
  | with_reducible refine w_sFld ?_
  | ((with_reducible refine' w_var ?rdh ?_); (case rdh => exact rfl))
  | with_reducible refine w_c ?_
  | with_reducible refine w_op ?_
  | with_reducible refine w_un ?_
  | with_reducible refine w_I0 ?_
  | with_reducible refine w_U ?_
  | with_reducible refine w_bits ?_
  | with_reducible refine w_bitsI ?_
  | with_reducible refine w_tup ?_
  | with_reducible refine w_lst ?_
  | with_reducible refine w_nil ?_
  | with_reducible refine w_cons ?_
  | with_reducible refine w_fld ?_
  | with_reducible refine w_call ?_
  | with_reducible refine w_make ?_
  | with_reducible refine w_makeD ?_
  | with_reducible refine w_nn ?_
  | with_reducible refine w_subB ?_
  | with_reducible refine w_meth ?_
  | with_reducible refine w_cb ?_
  | with_reducible refine w_test ?_
  | with_reducible refine w_B ?_
  | with_reducible refine w_bl ?_
  | with_reducible refine w_andV ?_
  | with_reducible refine w_orV ?_
  | with_reducible refine w_notV ?_
  | with_reducible refine w_and ?_
  | with_reducible refine w_or ?_
  | with_reducible refine w_not ?_
  | with_reducible refine w_if ?_
  | with_reducible refine w_gnil ?_
  | with_reducible refine w_gcons ?_
  | with_reducible refine iT ?_
  | with_reducible refine iF ?_
  | with_reducible refine w_eqI ?_
  | with_reducible refine w_neI ?_
  | with_reducible refine w_eqS ?_
  | with_reducible refine w_eqIS ?_
  | with_reducible refine w_eqSI ?_)

section
variable {P : Program} {w : World} {K : PySem.W.Frag} {mg : Str → Option Value} {base : Heap} {CF : Addr}
/-! ### is_finite, ratio -/
def Fl.isFin : Fl → Bool
  | .fin _ _ _ => true
  | _ => false
theorem Fl.ty (f : Fl) (K : PySem.W.Frag) (H : Hp) : ∃ t, TyX K H f.t t ∧ PySem.W.kitOne K t (.type "int") = some f.isFin := by
  cases f with
  | fin s t p => exact ⟨_, .base (.int t), kit_ty (r := true) (by decide +kernel)⟩
  | inf s => exact ⟨_, .base (.str _), kit_ty (r := false) (by decide +kernel)⟩
  | nan => exact ⟨_, .base (.str _), kit_ty (r := false) (by decide +kernel)⟩
def spFinite (CF : Addr) : Sp := fun vs H Q _ => ∃ a f, vs = [.ref a] ∧ FlAt CF H a f ∧ Q (.bl f.isFin) H
theorem sc_Float_is_finite : FnScope ["self"] ["self"] (defScope s_Float_is_finite) := ⟨rfl, rfl, rfl, by decide +kernel, rfl, by decide +kernel, by decide +kernel⟩
theorem ok_is_finite (T : All K mg CF) : KnM P w K mg base CX0 1 CF "is_finite" ["self"] (spFinite CF) := by
  refine T.x_is_finite.kn fun f fd F => ?_
  refine F.ok sc_Float_is_finite (fun vs H Q E h => ?_) (fun cdv A outer s H vs Q E hr h => ?_)
  · obtain ⟨a, f, rfl, _⟩ := h
    rfl
  · obtain ⟨a, f, rfl, ⟨dx, h1⟩, q⟩ := h
    refine ⟨_, (pss_one (ps_ret (pe_callB call_isi (by rfl) T.b_isinstance boot_isinstance (pa_cons (pe_fld (pv 0) rfl) (pa_cons (pe_bltn (by rfl) T.b_int boot_int (rty _)) pa_nil))))), ?_⟩
    repeat walk_at "rd"
    refine w_fldI h1 T.l_Float T.n_top (flds_t _ _ _) ?_
    repeat walk_at "rd"
    obtain ⟨t, ty, k⟩ := f.ty K H
    refine w_isi (.ty "int") ty k ?_
    repeat walk_at "rd"
    exact q
/-- top and bottom of a finite float -/
def ratT (s t p : Int) : Int := if p < 0 then s * t else s * (t * 2 ^ p.toNat)
def ratB (p : Int) : Int := if p < 0 then 2 ^ (0 - p).toNat else 1
def spRatio (CF : Addr) : Sp := fun vs H Q _ => ∃ a s t p, vs = [.ref a] ∧ FlAt CF H a (.fin s t p) ∧ (Fl.fin s t p).ok ∧
  ∀ q H', Same H H' → H q = none → H' q = some (.tup [.int (ratT s t p), .int (ratB p)]) → Q (.ref q) H'
theorem ok_bounds {s t p : Int} (h : (Fl.fin s t p).ok) : bits s ≤ 1 ∧ bits t ≤ 53 ∧ -1074 ≤ p ∧ p ≤ 1023 ∧ 0 ≤ t ∧ bits t + p ≤ 1024 := by
  obtain ⟨hs, h0, h1, h2, h3⟩ := h
  have b1 : bits s ≤ 1 := by rcases hs with rfl | rfl <;> decide
  have b2 : bits t ≤ ((53 : Nat) : Int) := (bits_lt_pow h0).2 (by rw [← pow53]; exact h1)
  by_cases z : t = 0
  · have := h2 z
    subst z
    rw [bits_zero]
    omega
  · obtain ⟨h4, h5, h6⟩ := h3 z
    have : 0 < Builtin.Int.intBits t := bits_pos (by omega)
    have e : bits t = (Builtin.Int.intBits t : Nat) := rfl
    omega
theorem sc_Float_ratio : FnScope ["self"] ["self"] (defScope s_Float_ratio) := ⟨rfl, rfl, rfl, by decide +kernel, rfl, by decide +kernel, by decide +kernel⟩
theorem ok_ratio (T : All K mg CF) : KnM P w K mg base CX0 1 CF "ratio" ["self"] (spRatio CF) := by
  refine T.x_ratio.kn fun f fd F => ?_
  refine F.ok sc_Float_ratio (fun vs H Q E h => ?_) (fun cdv A outer s H vs Q E hr h => ?_)
  · obtain ⟨a, s, t, p, rfl, _⟩ := h
    rfl
  · obtain ⟨a, s, t, p, rfl, ⟨dx, h1⟩, ok, q⟩ := h
    obtain ⟨bs, bt, p1, p2, t0, tp⟩ := ok_bounds ok
    refine ⟨_, (pss_cons (ps_if (pt_cmpR op_lt (pe_fld (pv 0) rfl) pe_int (nomark _)) (pss_one (ps_ret (pe_tup (pa_cons (pe_op op_mulX (pe_fld (pv 0) rfl) (pe_fld (pv 0) rfl)) (pa_cons (pe_op op_shlW pe_int (pe_op op_sub pe_int (pe_fld (pv 0) rfl))) pa_nil))))) pss_nil)
      (pss_one (ps_ret (pe_tup (pa_cons (pe_op op_mulX (pe_fld (pv 0) rfl) (pe_op op_shlW (pe_fld (pv 0) rfl) (pe_fld (pv 0) rfl))) (pa_cons pe_int pa_nil)))))), ?_⟩
    repeat walk_at "rd"
    refine w_fldI h1 T.l_Float T.n_power (flds_p _ _ _) ?_
    repeat walk_at "rd"
    refine iD (fun c => ?_) (fun c => ?_)
    · have c' : p < 0 := c
      repeat walk_at "rd"
      refine w_fldI h1 T.l_Float T.n_sign (flds_s _ _ _) ?_
      repeat walk_at "rd"
      refine w_fldI h1 T.l_Float T.n_top (flds_t _ _ _) ?_
      refine w_I (cmulx (i := s) (j := t) (by omega) (by omega)) ?_
      repeat walk_at "rd"
      refine w_fldI h1 T.l_Float T.n_power (flds_p _ _ _) ?_
      repeat walk_at "rd"
      refine w_I (cshl (i := 1) (j := 0 - p) (by decide) (by omega) (by omega)) ?_
      repeat walk_at "rd"
      refine w_tup2 fun a2 H2 s2 n2 h2 => ?_
      repeat walk_at "rd"
      refine q a2 H2 s2 n2 ?_
      rw [h2]
      unfold ratT ratB
      rw [if_pos c', if_pos c', Int.one_mul] <;> rfl
    · have c' : ¬ p < 0 := c
      repeat walk_at "rd"
      refine w_fldI h1 T.l_Float T.n_sign (flds_s _ _ _) ?_
      repeat walk_at "rd"
      refine w_fldI h1 T.l_Float T.n_top (flds_t _ _ _) ?_
      repeat walk_at "rd"
      refine w_fldI h1 T.l_Float T.n_power (flds_p _ _ _) ?_
      refine w_I (cshl (i := t) (j := p) (by omega) (by omega) (by omega)) ?_
      refine w_I (cmulx (i := s) (j := t * 2 ^ p.toNat) (by omega) (by have := bits_mul_pow t0 p.toNat; omega)) ?_
      repeat walk_at "rd"
      refine w_tup2 fun a2 H2 s2 n2 h2 => ?_
      repeat walk_at "rd"
      refine q a2 H2 s2 n2 ?_
      rw [h2]
      unfold ratT ratB
      rw [if_neg c', if_neg c'] <;> rfl
/-- a float is itself; an int of 64 bits the nearest -/
def spToF (K : PySem.W.Frag) (CF : Addr) : Sp := fun vs H Q _ => (∃ a f, vs = [.ref a] ∧ FlAt CF H a f ∧ Q (.ref a) H) ∨
  (∃ i, vs = [.int i] ∧ bits i ≤ 2000 ∧ NewF CF (nearM (if i < 0 then -1 else 1) (if i < 0 then -i else i) 1) H Q)
theorem sc_to_float : FnScope ["number"] ["number"] (defScope s_to_float) := ⟨rfl, rfl, rfl, by decide +kernel, rfl, by decide +kernel, by decide +kernel⟩
theorem ok_to_float (T : All K mg CF) (k_sign_of : Kn P w K mg base CX0 1 "sign_of" ["is_negative"] spSign) (k_nearest : Kn P w K mg base CX0 5 "nearest" ["sign", "top", "bottom"] (spNear CF)) : Kn P w K mg base CX0 6 "to_float" ["number"] (spToF K CF) := by
  refine T.x_to_float.kn fun f fd F => ?_
  refine F.ok sc_to_float (fun vs H Q E h => ?_) (fun cdv A outer s H vs Q E hr h => ?_)
  · rcases h with ⟨a, f, rfl, _⟩ | ⟨i, rfl, _⟩ <;> rfl
  · refine ⟨_, (pss_cons (ps_if (pt_val (pe_callB call_isi (by rfl) T.b_isinstance boot_isinstance (pa_cons (pv 0) (pa_cons (pg "Float" T.g_Float (rref _)) pa_nil)))) (pss_one (ps_ret (pv 0))) pss_nil)
      (pss_one (ps_ret (pk k_nearest hr (pa_cons (pk k_sign_of hr (pa_cons (pe_cmpR op_lt (pv 0) pe_int (nomark _)) pa_nil)) (pa_cons (pe_callB call_abs (by rfl) T.b_abs boot_abs (pa_cons (pv 0) pa_nil)) (pa_cons pe_int pa_nil))))))), ?_⟩
    rcases h with ⟨a, f, rfl, ⟨dx, h1⟩, q⟩ | ⟨i, rfl, hb, q⟩
    · obtain ⟨t, ty, i1, i2, i3, i4⟩ := says_fl T h1
      repeat walk_at "rd"
      refine w_isi (.own CF) ty i4 ?_
      repeat walk_at "rd"
      exact q
    · obtain ⟨t, ty, i1, i2, i3, i4⟩ := says_int (i := i) (H := H) T
      repeat walk_at "rd"
      refine w_isi (.own CF) ty i4 ?_
      repeat walk_at "rd"
      refine ⟨_, rfl, ?_⟩
      repeat walk_at "rd"
      refine ⟨_, _, _, rfl, ?_, ?_, by decide, ?_, by decide, ?_⟩
      · by_cases c : i < 0
        · rw [decide_eq_true c, if_pos rfl]; exact .inr rfl
        · rw [decide_eq_false c, if_neg Bool.false_ne_true]; exact .inl rfl
      · split <;> omega
      · have e : bits (if i < 0 then -i else i) = bits i := by
          split
          · exact congrArg Nat.cast (by unfold Builtin.Int.intBits; simp)
          · rfl
        rw [e]
        omega
      · have e : (if decide (i < 0) = true then (-1 : Int) else 1) = (if i < 0 then -1 else 1) := by
          by_cases c : i < 0
          · rw [decide_eq_true c, if_pos rfl, if_pos c]
          · rw [decide_eq_false c, if_neg Bool.false_ne_true, if_neg c]
        rw [e]
        exact q
theorem lk_fin (s : Int) (t : V) (p : Int) : (flds s t p).lookup ("is_finite" : Str) = none := flds_no s t p (by decide +kernel) (by decide +kernel) (by decide +kernel)
theorem lk_rat (s : Int) (t : V) (p : Int) : (flds s t p).lookup ("ratio" : Str) = none := flds_no s t p (by decide +kernel) (by decide +kernel) (by decide +kernel)
end
end Nu

set_option Elab.async false
set_option linter.all false
set_option maxRecDepth 100000
set_option autoImplicit false
set_option maxHeartbeats 4000000
namespace Nu
open PySem PySem.Spec PyProof.Rows L2 Rd
local macro_rules | `(tactic| walk_at "hp") => `(tactic| first | assumption | (refine same_get ?sm ?_; (case sm => assumption); walk_at "hp"))
local macro_rules | `(tactic| walk_at "rd") => `(tactic| first
  | with_reducible refine w_nx ?_
  | with_reducible refine w_rt ?_
  | with_reducible refine w_bk ?_
  | with_reducible refine w_ct ?_
  | with_reducible refine w_seq ?_
  | with_reducible refine w_next ?_
  | with_reducible refine w_ret ?_
  | with_reducible refine w_ifS ?_
  | with_reducible refine w_asg ?_
  | with_reducible refine w_name ?_
  | with_reducible refine w_par ?_
  | with_reducible refine w_parI ?_
  | with_reducible refine w_ii ?_
  | with_reducible refine w_i1 ?_
  | with_reducible refine w_drop ?_
  | with_reducible refine w_sFld ?_
  | ((with_reducible refine' w_var ?rdh ?_); (case rdh => exact rfl))
  | with_reducible refine w_c ?_
  | with_reducible refine w_op ?_
  | with_reducible refine w_un ?_
  | with_reducible refine w_I0 ?_
  | with_reducible refine w_U ?_
  | with_reducible refine w_bits ?_
  | with_reducible refine w_bitsI ?_
  | with_reducible refine w_tup ?_
  | with_reducible refine w_lst ?_
  | with_reducible refine w_nil ?_
  | with_reducible refine w_cons ?_
  | with_reducible refine w_fld ?_
  | with_reducible refine w_call ?_
  | with_reducible refine w_make ?_
  | with_reducible refine w_makeD ?_
  | with_reducible refine w_nn ?_
  | with_reducible refine w_subB ?_
  | with_reducible refine w_meth ?_
  | with_reducible refine w_cb ?_
  | with_reducible refine w_test ?_
  | with_reducible refine w_B ?_
  | with_reducible refine w_bl ?_
  | with_reducible refine w_andV ?_
  | with_reducible refine w_orV ?_
  | with_reducible refine w_notV ?_
  | with_reducible refine w_and ?_
  | with_reducible refine w_or ?_
  | with_reducible refine w_not ?_
  | with_reducible refine w_if ?_
  | with_reducible refine w_gnil ?_
  | with_reducible refine w_gcons ?_
  | with_reducible refine iT ?_
  | with_reducible refine iF ?_
  | with_reducible refine w_eqI ?_
  | with_reducible refine w_neI ?_
  | with_reducible refine w_eqS ?_
  | with_reducible refine w_eqIS ?_
  | with_reducible refine w_eqSI ?_)

/-! ### numbers -/
inductive Nm where
  | int (i : Int)
  | fl (f : Fl)
def NmAt (CF : Addr) (H : Hp) (x : V) : Nm → Prop
  | .int i => x = .int i ∧ bits i ≤ 70
  | .fl f => ∃ a, x = .ref a ∧ FlAt CF H a f ∧ f.ok
theorem NmAt.same {CF : Addr} {H H' : Hp} {x : V} : ∀ {n : Nm}, NmAt CF H x n → Same H H' → NmAt CF H' x n
  | .int _, h, _ => h
  | .fl _, ⟨a, e, h, o⟩, s => ⟨a, e, h.same s, o⟩
def place : Nm → Option (Int × Int)
  | .int i => some (i, 1)
  | .fl (.fin s t p) => some (ratT s t p, ratB p)
  | .fl (.inf s) => some (s * 2 ^ 1025, 1)
  | .fl .nan => none
theorem bits_mul (a b : Int) : bits (a * b) ≤ bits a + bits b := by
  have := intBits_mul_le (x := a) (y := b) (m := Builtin.Int.intBits a) (n := Builtin.Int.intBits b) (Nat.le_refl _) (Nat.le_refl _)
  unfold bits
  omega
theorem bits_pow (k : Nat) : bits (2 ^ k) = k + 1 := bits_eq (Int.le_refl _) (by rw [Int.pow_succ]; have := pow_pos2 k; omega)
theorem ratT_bits {s t p : Int} (h : (Fl.fin s t p).ok) : bits (ratT s t p) ≤ 1200 := by
  obtain ⟨bs, bt, p1, p2, t0, tp⟩ := ok_bounds h
  unfold ratT
  split
  · have := bits_mul s t; omega
  · have h1 := bits_mul s (t * 2 ^ p.toNat)
    have h2 := bits_mul_pow t0 p.toNat
    omega
theorem ratB_bits {s t p : Int} (h : (Fl.fin s t p).ok) : bits (ratB p) ≤ 1200 := by
  obtain ⟨bs, bt, p1, p2, t0, tp⟩ := ok_bounds h
  unfold ratB
  split
  · rw [bits_pow]; omega
  · decide
theorem ratB_pos (p : Int) : 0 < ratB p := by
  unfold ratB
  split
  · exact pow_pos2 _
  · decide
theorem place_bits {CF : Addr} {H : Hp} {x : V} {n : Nm} {a b : Int} (h : NmAt CF H x n) (e : place n = some (a, b)) : bits a ≤ 1200 ∧ bits b ≤ 1200 := by
  match n, h, e with
  | .int i, h, e =>
    cases e
    exact ⟨by have := h.2; omega, by decide⟩
  | .fl (.fin s t p), ⟨_, _, _, ok⟩, e =>
    cases e
    exact ⟨ratT_bits ok, ratB_bits ok⟩
  | .fl (.inf s), ⟨_, _, _, ok⟩, e =>
    cases e
    refine ⟨?_, by decide⟩
    have h1 := bits_mul s (2 ^ 1025)
    rw [bits_pow] at h1
    have h2 : bits s ≤ 1 := by rcases (show s = 1 ∨ s = -1 from ok) with rfl | rfl <;> decide
    omega
  | .fl .nan, _, e => cases e
section
variable {P : Program} {w : World} {K : PySem.W.Frag} {mg : Str → Option Value} {base : Heap} {CF : Addr}
theorem NmAt.says (T : All K mg CF) {H : Hp} {x : V} {n : Nm} (h : NmAt CF H x n) : ∃ pl fl, Says K CF H x pl false false fl ∧ (fl || ((pl || false) && !false)) = true ∧ (fl = match n with | .int _ => false | .fl _ => true) := by
  cases n with
  | int i =>
    obtain ⟨rfl, _⟩ := h
    exact ⟨true, false, says_int T, rfl, rfl⟩
  | fl f =>
    obtain ⟨a, rfl, ⟨dx, e⟩, _⟩ := h
    exact ⟨false, true, says_fl T e, rfl, rfl⟩
end
end Nu

set_option Elab.async false
set_option linter.all false
set_option maxRecDepth 100000
set_option autoImplicit false
set_option maxHeartbeats 4000000
namespace Nu
open PySem PySem.Spec PyProof.Rows L2 Rd
local macro_rules | `(tactic| walk_at "hp") => `(tactic| first | assumption | (refine same_get ?sm ?_; (case sm => assumption); walk_at "hp"))
local macro_rules | `(tactic| walk_at "rd") => `(tactic| first
  | with_reducible refine w_nx ?_
  | with_reducible refine w_rt ?_
  | with_reducible refine w_bk ?_
  | with_reducible refine w_ct ?_
  | with_reducible refine w_seq ?_
  | with_reducible refine w_next ?_
  | with_reducible refine w_ret ?_
  | with_reducible refine w_ifS ?_
  | with_reducible refine w_asg ?_
  | with_reducible refine w_name ?_
  | with_reducible refine w_par ?_
  | with_reducible refine w_parI ?_
  | with_reducible refine w_ii ?_
  | with_reducible refine w_i1 ?_
  | with_reducible refine w_drop ?_
  | with_reducible refine w_sFld ?_
  | ((with_reducible refine' w_var ?rdh ?_); (case rdh => exact rfl))
  | with_reducible refine w_c ?_
  | with_reducible refine w_op ?_
  | with_reducible refine w_un ?_
  | with_reducible refine w_I0 ?_
  | with_reducible refine w_U ?_
  | with_reducible refine w_bits ?_
  | with_reducible refine w_bitsI ?_
  | with_reducible refine w_tup ?_
  | with_reducible refine w_lst ?_
  | with_reducible refine w_nil ?_
  | with_reducible refine w_cons ?_
  | with_reducible refine w_fld ?_
  | with_reducible refine w_call ?_
  | with_reducible refine w_make ?_
  | with_reducible refine w_gsub ?_
  | with_reducible refine w_int1 ?_
  | with_reducible refine w_intB ?_
  | with_reducible refine w_for ?_
  | with_reducible refine w_rng1 ?_
  | with_reducible refine w_iList ?_
  | with_reducible refine w_iTup ?_
  | with_reducible refine w_makeD ?_
  | with_reducible refine w_nn ?_
  | with_reducible refine w_subB ?_
  | with_reducible refine w_meth ?_
  | with_reducible refine w_cb ?_
  | with_reducible refine w_test ?_
  | with_reducible refine w_B ?_
  | with_reducible refine w_bl ?_
  | with_reducible refine w_andV ?_
  | with_reducible refine w_orV ?_
  | with_reducible refine w_notV ?_
  | with_reducible refine w_and ?_
  | with_reducible refine w_or ?_
  | with_reducible refine w_not ?_
  | with_reducible refine w_if ?_
  | with_reducible refine w_gnil ?_
  | with_reducible refine w_gcons ?_
  | with_reducible refine iT ?_
  | with_reducible refine iF ?_
  | with_reducible refine w_eqI ?_
  | with_reducible refine w_neI ?_
  | with_reducible refine w_eqS ?_
  | with_reducible refine w_eqIS ?_
  | with_reducible refine w_eqSI ?_)

abbrev s_law_well : Stmt := top 21
abbrev s_law_draw : Stmt := top 22
abbrev s_law_one : Stmt := top 23
structure AllL (K : PySem.W.Frag) (mg : Str → Option Value) (CF : Addr) : Prop extends All K mg CF where
  x_well : Tx K mg "_law_well" "_law_well" s_law_well ["cell"]
  x_draw : Tx K mg "_law_draw" "_law_draw" s_law_draw ["well", "many"]
  x_one : Tx K mg "_law_one" "_law_one" s_law_one ["well", "some"]
/-! ### the well: a list of three ints -/
structure WellD (n : Nat) (a b c : Int) : Prop where
  a0 : 0 ≤ a
  a1 : bits a ≤ 1048580
  b0 : 0 ≤ b
  b1 : b < 2147483647
  c0 : 0 ≤ c
  c1 : c ≤ n
def Well (n : Nat) (H : Hp) (w : Addr) : Prop := ∃ a b c, H w = some (.lst [.int a, .int b, .int c]) ∧ WellD n a b c
theorem Well.mono {n m : Nat} {H : Hp} {w : Addr} (h : Well n H w) (hm : n ≤ m) : Well m H w := by
  obtain ⟨a, b, c, e, d⟩ := h
  exact ⟨a, b, c, e, ⟨d.a0, d.a1, d.b0, d.b1, d.c0, by have := d.c1; omega⟩⟩
theorem Well.same {n : Nat} {H H' : Hp} {w : Addr} (h : Well n H w) (s : Same H H') : Well n H' w := by
  obtain ⟨a, b, c, e, d⟩ := h
  exact ⟨a, b, c, s _ _ e, d⟩
theorem bits_small {n : Int} {k : Nat} (h0 : 0 ≤ n) (h : n < 2 ^ k) : bits n ≤ k := (bits_lt_pow h0).2 h
theorem bits_i (n : Int) : bits n = (Builtin.Int.intBits n : Nat) := rfl
theorem cmulS {i j : Int} (h : i.natAbs < 18446744073709551616) (h' : j.natAbs < 18446744073709551616) : CMulX i j := by
  refine cmulW ?_
  have a := (bits_le (n := i) (k := 64)).2 h
  have b := (bits_le (n := j) (k := 64)).2 h'
  unfold bits at a b
  omega
section
variable {P : Program} {w : World} {K : PySem.W.Frag} {mg : Str → Option Value} {base : Heap} {CF : Addr}
def spWell : Sp := fun vs H Q _ => ∃ c, vs = [.int c] ∧ bits c ≤ 1048576 ∧ ∀ p H', Same H H' → H p = none → Well 0 H' p → Q (.ref p) H'
theorem sc_law_well : FnScope ["cell"] ["cell"] (defScope s_law_well) := ⟨rfl, rfl, rfl, by decide +kernel, rfl, by decide +kernel, by decide +kernel⟩
theorem ok_well (T : AllL K mg CF) : Kn P w K mg base CX0 1 "_law_well" ["cell"] spWell := by
  refine T.x_well.kn fun f fd F => ?_
  refine F.ok sc_law_well (fun vs H Q E h => ?_) (fun cdv A outer s H vs Q E hr h => ?_)
  · obtain ⟨c, rfl, _⟩ := h
    rfl
  · obtain ⟨c, rfl, hc, q⟩ := h
    refine ⟨_, (pss_one (ps_ret (pe_lst (pa_cons (pe_op op_mulX (pv 0) (pe_callTy call_int1 (by rfl) T.b_int boot_int (pa_cons (pe_cmpR op_ge (pv 0) (pe_op op_pow pe_int pe_int) (nomark _)) pa_nil))) (pa_cons (pe_op op_mod (pe_callTy call_int1 (by rfl) T.b_int boot_int (pa_cons (pv 0) pa_nil)) pe_int) (pa_cons pe_int pa_nil)))))), ?_⟩
    repeat walk_at "rd"
    refine w_I (cpow (by decide) (by decide) (by decide)) ?_
    repeat walk_at "rd"
    refine w_I (cmulW (by have : bits (if decide (10 ^ Int.toNat 18 ≤ c) = true then (1 : Int) else 0) ≤ 1 := by split <;> decide
                          unfold bits at this hc; omega)) ?_
    repeat walk_at "rd"
    refine w_I (by decide) ?_
    repeat walk_at "rd"
    refine w_lst3 fun p H' s n h => ?_
    refine q p H' s n ⟨_, _, _, h, ?_⟩
    by_cases g : (10 : Int) ^ Int.toNat 18 ≤ c
    · rw [decide_eq_true g, if_pos rfl, Int.mul_one]
      have : (0 : Int) < 10 ^ Int.toNat 18 := by decide
      exact ⟨by omega, by omega, Int.emod_nonneg _ (by decide), Int.emod_lt_of_pos _ (by decide), Int.le_refl _, Int.le_refl _⟩
    · rw [decide_eq_false g, if_neg Bool.false_ne_true, Int.mul_zero]
      exact ⟨Int.le_refl _, by decide, Int.emod_nonneg _ (by decide), Int.emod_lt_of_pos _ (by decide), Int.le_refl _, Int.le_refl _⟩
/-! ### a draw -/
def spDraw : Sp := fun vs H Q _ => ∃ p many n, vs = [.ref p, .int many] ∧ Well n H p ∧ n < 1000000 ∧ 0 < many ∧ bits many ≤ 64 ∧
  ∀ r H', Oth p H H' → Well (n + 1) H' p → 0 ≤ r → r < many → Q (.int r) H'
theorem sc_law_draw : FnScope ["well", "many", "digit", "number"] ["well", "many"] (defScope s_law_draw) := ⟨rfl, rfl, rfl, by decide +kernel, rfl, by decide +kernel, by decide +kernel⟩
theorem ok_draw (T : AllL K mg CF) : Kn P w K mg base CX0 1 "_law_draw" ["well", "many"] spDraw := by
  refine T.x_draw.kn fun f fd F => ?_
  refine F.ok sc_law_draw (fun vs H Q E h => ?_) (fun cdv A outer s H vs Q E hr h => ?_)
  · obtain ⟨p, many, n, rfl, _⟩ := h
    rfl
  · obtain ⟨p, many, n, rfl, ⟨a, b, c, hw, d⟩, hn, m0, m1, q⟩ := h
    refine ⟨_, (pss_cons (ps_if (pt_cmpR op_gt (pe_ix ix_list (pv 0) pe_int (fun _ _ => rfl)) pe_int (nomark _)) (pss_cons (ps_set (i := 2) sc_law_draw.nd rfl (Or.inl rfl) (pe_op op_mod (pe_callTy call_int1 (by rfl) T.b_int boot_int (pa_cons (pe_ix ix_list (pv 0) pe_int (fun _ _ => rfl)) pa_nil)) (pv 1)))
      (pss_cons (ps_asg (pe_op op_fdivW (pe_ix ix_list (pv 0) pe_int (fun _ _ => rfl)) (pv 1)) (pg_sub (pv 0) pe_int set_list))
      (pss_one (ps_ret (pv 2))))) pss_nil)
      (pss_cons (ps_asg (pe_op op_add (pe_ix ix_list (pv 0) pe_int (fun _ _ => rfl)) pe_int) (pg_sub (pv 0) pe_int set_list))
      (pss_cons (ps_set (i := 3) sc_law_draw.nd rfl (Or.inl rfl) (pe_op op_mod (pe_callTy call_int1 (by rfl) T.b_int boot_int (pa_cons (pe_op op_add (pe_op op_add (pe_op op_mulX (pe_ix ix_list (pv 0) pe_int (fun _ _ => rfl)) pe_int) (pe_op op_mulX pe_int (pe_ix ix_list (pv 0) pe_int (fun _ _ => rfl)))) pe_int) pa_nil)) pe_int))
      (pss_cons (ps_set (i := 3) sc_law_draw.nd rfl (Or.inl rfl) (pe_op op_mod (pe_callTy call_int1 (by rfl) T.b_int boot_int (pa_cons (pe_op op_mulX (pv 3) (pe_op op_add (pe_op op_fdivW (pv 3) pe_int) pe_int)) pa_nil)) pe_int))
      (pss_cons (ps_set (i := 3) sc_law_draw.nd rfl (Or.inl rfl) (pe_op op_mod (pe_callTy call_int1 (by rfl) T.b_int boot_int (pa_cons (pe_op op_mulX (pv 3) (pe_op op_add (pe_op op_add (pe_op op_fdivW (pv 3) pe_int) pe_int) (pe_ix ix_list (pv 0) pe_int (fun _ _ => rfl)))) pa_nil)) pe_int))
      (pss_one (ps_ret (pe_op op_mod (pe_callTy call_int1 (by rfl) T.b_int boot_int (pa_cons (pe_op op_fdivW (pv 3) pe_int) pa_nil)) (pv 1))))))))), ?_⟩
    obtain ⟨a0, a1, b0, b1, c0, c1⟩ := d
    repeat walk_at "rd"
    refine w_ixL hw (v := .int a) rfl ?_
    repeat walk_at "rd"
    refine iD (fun g => ?_) (fun g => ?_)
    · repeat walk_at "rd"
      refine w_ixL hw (v := .int a) rfl ?_
      repeat walk_at "rd"
      refine w_I m0 ?_
      repeat walk_at "rd"
      refine w_ixL hw (v := .int a) rfl ?_
      repeat walk_at "rd"
      refine w_I (cdivw m0 (by omega)) ?_
      repeat walk_at "rd"
      refine w_setL hw rfl ?_
      repeat walk_at "rd"
      refine q _ _ Oth.refl.put ⟨_, _, _, upd_same, ?_⟩ (Int.emod_nonneg _ (by omega)) (Int.emod_lt_of_pos _ m0)
      have e : a / many ≤ a := Int.ediv_le_self _ a0
      have e0 : 0 ≤ a / many := Int.ediv_nonneg a0 (by omega)
      exact ⟨e0, by have := bits_mono e0 e; omega, b0, b1, c0, by omega⟩
    · repeat walk_at "rd"
      refine w_ixL hw (v := .int c) rfl ?_
      repeat walk_at "rd"
      refine w_setL (j := 2) hw rfl ?_
      have hw2 := upd_same (H := H) (a := p) (o := .lst (List.set [V.int a, .int b, .int c] 2 (.int (c + 1))))
      have o2 := (Oth.refl (x := p) (H := H)).put (o := .lst (List.set [V.int a, .int b, .int c] 2 (.int (c + 1))))
      generalize upd H p (.lst (List.set [V.int a, .int b, .int c] 2 (.int (c + 1)))) = H2 at hw2 o2 ⊢
      change H2 p = some (.lst [.int a, .int b, .int (c + 1)]) at hw2
      have W2 : Well (n + 1) H2 p := ⟨_, _, _, hw2, ⟨a0, a1, b0, b1, by omega, by omega⟩⟩
      repeat walk_at "rd"
      refine w_ixL hw2 (v := .int b) rfl ?_
      repeat walk_at "rd"
      refine w_I (cmulS (by omega) (by decide)) ?_
      repeat walk_at "rd"
      refine w_ixL hw2 (v := .int (c + 1)) rfl ?_
      refine w_I (cmulS (by decide) (by omega)) ?_
      repeat walk_at "rd"
      refine w_I (by decide) ?_
      have g0 := Int.emod_nonneg (b * 48271 + 30103 * (c + 1) + 11) (show (2147483647 : Int) ≠ 0 by decide)
      have g1 := Int.emod_lt_of_pos (b * 48271 + 30103 * (c + 1) + 11) (show (0 : Int) < 2147483647 by decide)
      generalize (b * 48271 + 30103 * (c + 1) + 11) % 2147483647 = x1 at g0 g1 ⊢
      repeat walk_at "rd"
      refine w_I (cdivw (by decide) (by decide)) ?_
      repeat walk_at "rd"
      refine w_I (cmulS (by omega) (by omega)) ?_
      repeat walk_at "rd"
      refine w_I (by decide) ?_
      have g2 := Int.emod_nonneg (x1 * (x1 / 1009 + 69621)) (show (2147483629 : Int) ≠ 0 by decide)
      have g3 := Int.emod_lt_of_pos (x1 * (x1 / 1009 + 69621)) (show (0 : Int) < 2147483629 by decide)
      generalize x1 * (x1 / 1009 + 69621) % 2147483629 = x2 at g2 g3 ⊢
      repeat walk_at "rd"
      refine w_I (cdivw (by decide) (by decide)) ?_
      repeat walk_at "rd"
      refine w_ixL hw2 (v := .int (c + 1)) rfl ?_
      repeat walk_at "rd"
      refine w_I (cmulS (by omega) (by omega)) ?_
      repeat walk_at "rd"
      refine w_I (by decide) ?_
      repeat walk_at "rd"
      refine w_I (cdivw (by decide) (by decide)) ?_
      repeat walk_at "rd"
      refine w_I m0 ?_
      exact q _ _ o2 W2 (Int.emod_nonneg _ (by omega)) (Int.emod_lt_of_pos _ m0)
/-! ### one of some -/
def spOne : Sp := fun vs H Q _ => ∃ (p l : Addr) (n : Nat) (xs : List V), vs = [.ref p, .ref l] ∧ Well n H p ∧ n < 1000000 ∧ l ≠ p ∧ H l = some (.lst xs) ∧ 0 < xs.length ∧ xs.length ≤ 1000 ∧
  ∀ (i : Nat) v H', xs[i]? = some v → Oth p H H' → Well (n + 1) H' p → Q v H'
theorem atI_nat {xs : List V} {r : Int} (h0 : 0 ≤ r) (h1 : r < xs.length) : ∃ v, atI xs r = some v ∧ xs[r.toNat]? = some v := by
  obtain ⟨k, rfl⟩ := Int.eq_ofNat_of_zero_le h0
  have h : k < xs.length := by omega
  refine ⟨xs[k], ?_, ?_⟩
  · unfold atI ixN
    rw [if_pos h0, if_pos h1]
    simp [h]
  · simp [h]
theorem sc_law_one : FnScope ["well", "some"] ["well", "some"] (defScope s_law_one) := ⟨rfl, rfl, rfl, by decide +kernel, rfl, by decide +kernel, by decide +kernel⟩
theorem ok_one (T : AllL K mg CF) (k_law_draw : Kn P w K mg base CX0 1 "_law_draw" ["well", "many"] spDraw) : Kn P w K mg base CX0 2 "_law_one" ["well", "some"] spOne := by
  refine T.x_one.kn fun f fd F => ?_
  refine F.ok sc_law_one (fun vs H Q E h => ?_) (fun cdv A outer s H vs Q E hr h => ?_)
  · obtain ⟨p, l, n, xs, rfl, _⟩ := h
    rfl
  · obtain ⟨p, l, n, xs, rfl, hw, hn, lp, hl, l0, l1, q⟩ := h
    refine ⟨_, (pss_one (ps_ret (pe_ix ix_list (pv 1) (pk k_law_draw hr (pa_cons (pv 0) (pa_cons (pe_callB call_len_seq (by rfl) T.b_len boot_len (pa_cons (pv 1) pa_nil)) pa_nil))) (fun _ _ => rfl)))), ?_⟩
    repeat walk_at "rd"
    refine w_lenL hl ?_
    repeat walk_at "rd"
    refine ⟨p, _, n, rfl, hw, hn, by omega, ?_, fun r H' o W r0 r1 => ?_⟩
    · have := (bits_lt_pow (n := (xs.length : Int)) (k := 64) (by omega)).2 (Int.lt_trans (show (xs.length : Int) < 18446744073709551615 by omega) (by decide))
      exact this
    repeat walk_at "rd"
    obtain ⟨v, e1, e2⟩ := atI_nat r0 r1
    refine w_ixL (o l _ lp hl) e1 ?_
    exact q _ v H' e2 o W
end
end Nu

set_option Elab.async false
set_option linter.all false
set_option maxRecDepth 100000
set_option autoImplicit false
set_option maxHeartbeats 4000000
namespace Nu
open PySem PySem.Spec PyProof.Rows L2 Rd
local macro_rules | `(tactic| walk_at "hp") => `(tactic| first | assumption | (refine same_get ?sm ?_; (case sm => assumption); walk_at "hp"))
local macro_rules | `(tactic| walk_at "rd") => `(tactic| first
  | with_reducible refine w_nx ?_
  | with_reducible refine w_rt ?_
  | with_reducible refine w_bk ?_
  | with_reducible refine w_ct ?_
  | with_reducible refine w_seq ?_
  | with_reducible refine w_next ?_
  | with_reducible refine w_ret ?_
  | with_reducible refine w_ifS ?_
  | with_reducible refine w_asg ?_
  | with_reducible refine w_name ?_
  | with_reducible refine w_par ?_
  | with_reducible refine w_parI ?_
  | with_reducible refine w_ii ?_
  | with_reducible refine w_i1 ?_
  | with_reducible refine w_drop ?_
  | with_reducible refine w_sFld ?_
  | ((with_reducible refine' w_var ?rdh ?_); (case rdh => exact rfl))
  | with_reducible refine w_c ?_
  | with_reducible refine w_op ?_
  | with_reducible refine w_un ?_
  | with_reducible refine w_I0 ?_
  | with_reducible refine w_U ?_
  | with_reducible refine w_bits ?_
  | with_reducible refine w_bitsI ?_
  | with_reducible refine w_tup ?_
  | with_reducible refine w_lst ?_
  | with_reducible refine w_nil ?_
  | with_reducible refine w_cons ?_
  | with_reducible refine w_fld ?_
  | with_reducible refine w_call ?_
  | with_reducible refine w_make ?_
  | with_reducible refine w_gsub ?_
  | with_reducible refine w_int1 ?_
  | with_reducible refine w_intB ?_
  | with_reducible refine w_for ?_
  | with_reducible refine w_rng1 ?_
  | with_reducible refine w_iList ?_
  | with_reducible refine w_iTup ?_
  | with_reducible refine w_makeD ?_
  | with_reducible refine w_nn ?_
  | with_reducible refine w_subB ?_
  | with_reducible refine w_meth ?_
  | with_reducible refine w_cb ?_
  | with_reducible refine w_test ?_
  | with_reducible refine w_B ?_
  | with_reducible refine w_bl ?_
  | with_reducible refine w_andV ?_
  | with_reducible refine w_orV ?_
  | with_reducible refine w_notV ?_
  | with_reducible refine w_and ?_
  | with_reducible refine w_or ?_
  | with_reducible refine w_not ?_
  | with_reducible refine w_if ?_
  | with_reducible refine w_gnil ?_
  | with_reducible refine w_gcons ?_
  | with_reducible refine iT ?_
  | with_reducible refine iF ?_
  | with_reducible refine w_eqI ?_
  | with_reducible refine w_neI ?_
  | with_reducible refine w_eqS ?_
  | with_reducible refine w_eqIS ?_
  | with_reducible refine w_eqSI ?_)

abbrev s_law_great : Stmt := top 24
abbrev s_law_finite : Stmt := top 25
structure AllM (K : PySem.W.Frag) (mg : Str → Option Value) (CF : Addr) : Prop extends AllL K mg CF where
  x_finite : Tx K mg "_law_finite" "_law_finite" s_law_finite ["well"]
  x_great : Tx K mg "_law_great" "_law_great" s_law_great ["well", "bits"]
section
variable {P : Program} {w : World} {K : PySem.W.Frag} {mg : Str → Option Value} {base : Heap} {CF : Addr}
/-! ### a great int -/
def spGreat : Sp := fun vs H Q _ => ∃ (p : Addr) (b : Int) (n : Nat), vs = [.ref p, .int b] ∧ Well n H p ∧ n < 900000 ∧ 0 ≤ b ∧ b ≤ 100 ∧
  ∀ r H', Oth p H H' → Well (n + 10) H' p → 0 ≤ r → r < 2 ^ b.toNat → Q (.int r) H'
theorem sc_law_great : FnScope ["well", "bits", "number", "k"] ["well", "bits"] (defScope s_law_great) := ⟨rfl, rfl, rfl, by decide +kernel, rfl, by decide +kernel, by decide +kernel⟩
theorem ok_great (T : AllM K mg CF) (k_law_draw : Kn P w K mg base CX0 1 "_law_draw" ["well", "many"] spDraw) : Kn P w K mg base CX0 2 "_law_great" ["well", "bits"] spGreat := by
  refine T.x_great.kn fun f fd F => ?_
  refine F.ok sc_law_great (fun vs H Q E h => ?_) (fun cdv A outer s H vs Q E hr h => ?_)
  · obtain ⟨p, b, n, rfl, _⟩ := h
    rfl
  · obtain ⟨p, b, n, rfl, hw, hn, hb0, hb1, q⟩ := h
    refine ⟨_, (pss_cons (ps_set (i := 2) sc_law_great.nd rfl (Or.inl rfl) pe_int)
      (pss_cons (ps_for PassesOwn.never rfl (pi_range1 rfl T.b_range (pa_cons (pe_op op_add pe_int (pe_op op_fdivW (pv 1) pe_int)) pa_nil)) (pg_name (i := 3) sc_law_great.nd rfl (Or.inl rfl))
      (pss_one (ps_set (i := 2) sc_law_great.nd rfl (Or.inl rfl) (pe_op op_add (pe_op op_mulX (pv 2) pe_int) (pk k_law_draw hr (pa_cons (pv 0) (pa_cons pe_int pa_nil)))))))
      (pss_one (ps_ret (pe_op op_mod (pe_callTy call_int1 (by rfl) T.b_int boot_int (pa_cons (pv 2) pa_nil)) (pe_op op_shlW pe_int (pv 1))))))), ?_⟩
    repeat walk_at "rd"
    refine w_I (cdivw (by decide) (by decide)) ?_
    repeat walk_at "rd"
    refine ⟨by omega, by omega, ?_⟩
    have e : (1 + b / 20).toNat ≤ 6 := by omega
    generalize (1 + b / 20).toNat = m at e ⊢
    refine for_range (lo := 0) (fun i σ H' => ∃ num kv, σ = [some (.ref p), some (.int b), some (.int num), kv] ∧ Oth p H H' ∧ Well (n + i) H' p ∧ 0 ≤ num ∧ num < 2 ^ (20 * i)) ⟨0, none, rfl, Oth.refl, hw, Int.le_refl _, by decide⟩ ?_ ?_
    · intro i σ H1 hi ⟨num, kv, es, o1, w1, n0, n1⟩
      subst es
      repeat walk_at "rd"
      have bn := (bits_lt_pow n0).2 n1
      refine w_I (cmulW (by unfold bits at bn; have : Builtin.Int.intBits 1048576 = 21 := by decide
                            omega)) ?_
      repeat walk_at "rd"
      refine ⟨p, 1048576, n + i, rfl, w1, by omega, by decide, by decide, fun r H2 o2 w2 r0 r1 => ?_⟩
      repeat walk_at "rd"
      refine ⟨_, _, rfl, o1.trans o2, w2, by omega, ?_⟩
      rw [show 20 * (i + 1) = 20 * i + 20 from by omega, Int.pow_add, show (2 : Int) ^ 20 = 1048576 by decide]
      omega
    · intro σ H1 ⟨num, kv, es, o1, w1, n0, n1⟩
      subst es
      repeat walk_at "rd"
      refine w_I (cshl (by decide) hb0 (by omega)) ?_
      repeat walk_at "rd"
      have pp := pow_pos2 b.toNat
      refine w_I (by rw [Int.one_mul]; exact pp) ?_
      rw [Int.one_mul]
      exact q _ _ o1 (w1.mono (by omega)) (Int.emod_nonneg _ (by omega)) (Int.emod_lt_of_pos _ pp)
theorem u_draw {p : Addr} {many : Int} {n : Nat} {H : Hp} {Q : VK} {E : XK} (hw : Well n H p) (hn : n < 1000000) (m0 : 0 < many) (m1 : bits many ≤ 64) (q : ∀ r H', Oth p H H' → Well (n + 1) H' p → 0 ≤ r → r < many → Q (.int r) H') : spDraw ([V.ref p, V.int many] ++ []) H Q E :=
  ⟨p, many, n, rfl, hw, hn, m0, m1, q⟩
theorem u_one {p l : Addr} {xs : List V} {n : Nat} {H : Hp} {Q : VK} {E : XK} (hw : Well n H p) (hn : n < 1000000) (hl : H l = some (.lst xs)) (lp : l ≠ p) (l0 : 0 < xs.length) (l1 : xs.length ≤ 1000) (q : ∀ v H', v ∈ xs → Oth p H H' → Well (n + 1) H' p → Q v H') : spOne ([V.ref p, V.ref l] ++ []) H Q E :=
  ⟨p, l, n, xs, rfl, hw, hn, lp, hl, l0, l1, fun i v H' e o W => q v H' (List.mem_of_getElem? e) o W⟩
/-- a call of _law_one on a list that is made in the call -/
theorem u_great {p : Addr} {b : Int} {n : Nat} {H : Hp} {Q : VK} {E : XK} (hw : Well n H p) (hn : n < 900000) (m0 : 0 ≤ b) (m1 : b ≤ 100) (q : ∀ r H', Oth p H H' → Well (n + 10) H' p → 0 ≤ r → r < 2 ^ b.toNat → Q (.int r) H') : spGreat ([V.ref p, V.int b] ++ []) H Q E :=
  ⟨p, b, n, rfl, hw, hn, m0, m1, q⟩
theorem Well.ne {n : Nat} {H : Hp} {p l : Addr} (h : Well n H p) (e : H l = none) : l ≠ p := by
  rintro rfl
  obtain ⟨_, _, _, k, _⟩ := h
  rw [e] at k
  cases k
/-! ### a finite float's parts -/
structure FinA (s t p : Int) : Prop where
  hs : s = 1 ∨ s = -1
  t0 : 0 ≤ t
  t1 : t < 9007199254740992
  p0 : -1074 ≤ p
  p1 : p ≤ 971
def spFin : Sp := fun vs H Q _ => ∃ (p : Addr) (n : Nat), vs = [.ref p] ∧ Well n H p ∧ n < 800000 ∧
  ∀ q H' s t pw, Oth p H H' → Well (n + 40) H' p → H' q = some (.tup [.int s, .int t, .int pw]) → FinA s t pw → Q (.ref q) H'
theorem sc_law_finite : FnScope ["well", "sign", "way", "some"] ["well"] (defScope s_law_finite) := ⟨rfl, rfl, rfl, by decide +kernel, rfl, by decide +kernel, by decide +kernel⟩
theorem ok_finite (T : AllM K mg CF) (k_law_draw : Kn P w K mg base CX0 1 "_law_draw" ["well", "many"] spDraw) (k_law_one : Kn P w K mg base CX0 2 "_law_one" ["well", "some"] spOne) (k_law_great : Kn P w K mg base CX0 2 "_law_great" ["well", "bits"] spGreat) :
    Kn P w K mg base CX0 3 "_law_finite" ["well"] spFin := by
  refine T.x_finite.kn fun f fd F => ?_
  refine F.ok sc_law_finite (fun vs H Q E h => ?_) (fun cdv A outer s H vs Q E hr h => ?_)
  · obtain ⟨p, n, rfl, _⟩ := h
    rfl
  · obtain ⟨p, n, rfl, hw, hn, q⟩ := h
    refine ⟨_, (pss_cons (ps_par (by rfl) sc_law_finite.nd (i := 1) (j := 2) rfl rfl (by decide) rfl rfl (pa_cons (pk k_law_one hr (pa_cons (pv 0) (pa_cons (pe_lst (pa_cons pe_int (pa_cons (pe_un un_neg pe_int) pa_nil))) pa_nil))) (pa_cons (pk k_law_draw hr (pa_cons (pv 0) (pa_cons pe_int pa_nil))) pa_nil)) (by rfl))
      (pss_cons (ps_if (pt_cmpR op_eq (pv 2) pe_int (nomark _)) (pss_one (ps_ret (pe_tup (pa_cons (pv 1) (pa_cons pe_int (pa_cons pe_int pa_nil)))))) pss_nil)
      (pss_cons (ps_if (pt_cmpR op_lt (pv 2) pe_int (nomark _)) (pss_one (ps_ret (pe_tup (pa_cons (pv 1) (pa_cons (pk k_law_draw hr (pa_cons (pv 0) (pa_cons pe_int pa_nil))) (pa_cons (pk k_law_one hr (pa_cons (pv 0) (pa_cons (pe_lst (pa_cons pe_int (pa_cons pe_int (pa_cons (pe_un un_neg pe_int) (pa_cons (pe_un un_neg pe_int) pa_nil))))) pa_nil))) pa_nil)))))) pss_nil)
      (pss_cons (ps_set (i := 3) sc_law_finite.nd rfl (Or.inl rfl) (pe_lst (pa_cons (pe_op op_sub (pk k_law_draw hr (pa_cons (pv 0) (pa_cons pe_int pa_nil))) pe_int) (pa_cons (pe_op op_sub pe_int (pk k_law_draw hr (pa_cons (pv 0) (pa_cons pe_int pa_nil)))) (pa_cons (pk k_law_draw hr (pa_cons (pv 0) (pa_cons pe_int pa_nil))) (pa_cons (pe_op op_sub pe_int (pk k_law_draw hr (pa_cons (pv 0) (pa_cons pe_int pa_nil)))) pa_nil))))))
      (pss_cons (ps_set (i := 3) sc_law_finite.nd rfl (Or.inl rfl) (pe_op op_cat (pv 3) (pe_lst (pa_cons (pe_op op_sub (pe_un un_neg pe_int) (pk k_law_draw hr (pa_cons (pv 0) (pa_cons pe_int pa_nil)))) (pa_cons (pe_op op_sub (pk k_law_draw hr (pa_cons (pv 0) (pa_cons pe_int pa_nil))) pe_int) pa_nil)))))
      (pss_one (ps_ret (pe_tup (pa_cons (pv 1) (pa_cons (pk k_law_great hr (pa_cons (pv 0) (pa_cons (pk k_law_one hr (pa_cons (pv 0) (pa_cons (pe_lst (pa_cons pe_int (pa_cons pe_int (pa_cons pe_int (pa_cons pe_int pa_nil))))) pa_nil))) pa_nil))) (pa_cons (pe_callB (call_min2 rfl) (by rfl) T.b_min boot_min (pa_cons pe_int (pa_cons (pk k_law_one hr (pa_cons (pv 0) (pa_cons (pv 3) pa_nil))) pa_nil))) pa_nil))))))))))), ?_⟩
    repeat walk_at "rd"
    refine w_lst2 fun a1 H1 s1 n1 h1 => ?_
    repeat walk_at "rd"
    refine u_one (hw.same s1) (by omega) h1 (hw.ne n1) (by decide) (by decide) fun v H2 hv o2 w2 => ?_
    have o2 := (Rd.Same.oth (x := p) s1).trans o2
    obtain ⟨sg, rfl, hs⟩ : ∃ sg, v = .int sg ∧ (sg = 1 ∨ sg = -1) := by
      simp only [List.mem_cons, List.not_mem_nil, or_false] at hv
      rcases hv with rfl | rfl
      · exact ⟨_, rfl, .inl rfl⟩
      · exact ⟨_, rfl, .inr rfl⟩
    repeat walk_at "rd"
    refine u_draw w2 (by omega) (by decide) (by decide) fun way H3 o3 w3 r0 r1 => ?_
    have o3 := o2.trans o3
    repeat walk_at "rd"
    refine iD (fun _ => ?_) (fun _ => ?_)
    · repeat walk_at "rd"
      refine w_tup3 fun a4 H4 s4 n4 h4 => ?_
      repeat walk_at "rd"
      exact q a4 H4 sg 0 0 (o3.same s4) ((w3.mono (by omega)).same s4) h4 ⟨hs, by decide, by decide, by decide, by decide⟩
    repeat walk_at "rd"
    refine iD (fun _ => ?_) (fun _ => ?_)
    · repeat walk_at "rd"
      refine u_draw w3 (by omega) (by decide) (by decide) fun t H4 o4 w4 t0 t1 => ?_
      repeat walk_at "rd"
      refine w_lst4 fun a5 H5 s5 n5 h5 => ?_
      repeat walk_at "rd"
      refine u_one (w4.same s5) (by omega) h5 (w4.ne n5) (by decide) (by decide) fun v H6 hv o6 w6 => ?_
      have o6 := ((o3.trans o4).same s5).trans o6
      obtain ⟨pw, rfl, hp⟩ : ∃ pw, v = .int pw ∧ -3 ≤ pw ∧ pw ≤ 0 := by
        simp only [List.mem_cons, List.not_mem_nil, or_false] at hv
        rcases hv with rfl | rfl | rfl | rfl <;> exact ⟨_, rfl, by decide, by decide⟩
      repeat walk_at "rd"
      refine w_tup3 fun a4 H4 s4 n4 h4 => ?_
      repeat walk_at "rd"
      exact q a4 H4 sg t pw (o6.same s4) ((w6.mono (by omega)).same s4) h4 ⟨hs, t0, by omega, by omega, by omega⟩
    repeat walk_at "rd"
    refine u_draw w3 (by omega) (by decide) (by decide) fun t1 H4 o4 w4 t1l t1u => ?_
    repeat walk_at "rd"
    refine u_draw w4 (by omega) (by decide) (by decide) fun t2 H5 o5 w5 t2l t2u => ?_
    repeat walk_at "rd"
    refine u_draw w5 (by omega) (by decide) (by decide) fun t3 H6 o6 w6 t3l t3u => ?_
    repeat walk_at "rd"
    refine u_draw w6 (by omega) (by decide) (by decide) fun t4 H7 o7 w7 t4l t4u => ?_
    have o7 := (((o3.trans o4).trans o5).trans o6).trans o7
    repeat walk_at "rd"
    refine w_lst4 fun a8 H8 s8 n8 h8 => ?_
    have o8 := o7.same s8
    have w8 := w7.same s8
    have ne8 := w7.ne n8
    repeat walk_at "rd"
    refine u_draw w8 (by omega) (by decide) (by decide) fun t5 H9 o9 w9 t5l t5u => ?_
    repeat walk_at "rd"
    refine u_draw w9 (by omega) (by decide) (by decide) fun t6 H10 o10 w10 t6l t6u => ?_
    have o10 := (o8.trans o9).trans o10
    have h8 : H10 a8 = _ := (‹Oth p H9 H10›) _ _ ne8 ((‹Oth p H8 H9›) _ _ ne8 h8)
    repeat walk_at "rd"
    refine w_lst2 fun a11 H11 s11 n11 h11 => ?_
    repeat walk_at "rd"
    refine w_cat (s11 _ _ h8) h11 (by show 4 + 2 ≤ sizeLine; decide) fun a12 H12 s12 n12 h12 => ?_
    have o12 := (o10.same s11).same s12
    have w12 := (w10.same s11).same s12
    have ne12 := (w10.same s11).ne n12
    repeat walk_at "rd"
    refine w_lst4 fun a13 H13 s13 n13 h13 => ?_
    repeat walk_at "rd"
    refine u_one (w12.same s13) (by omega) h13 (w12.ne n13) (by decide) (by decide) fun v H14 hv o14 w14 => ?_
    have k14 : H14 a12 = _ := o14 _ _ ne12 (s13 _ _ h12)
    have o14 := (o12.same s13).trans o14
    obtain ⟨bt, rfl, hbt⟩ : ∃ bt, v = .int bt ∧ 0 ≤ bt ∧ bt ≤ 53 := by
      simp only [List.mem_cons, List.not_mem_nil, or_false] at hv
      rcases hv with rfl | rfl | rfl | rfl <;> exact ⟨_, rfl, by decide, by decide⟩
    repeat walk_at "rd"
    refine u_great w14 (by omega) hbt.1 (by omega) fun t H15 o15 w15 tl tu => ?_
    have k15 : H15 a12 = _ := o15 _ _ ne12 k14
    have o15 := o14.trans o15
    repeat walk_at "rd"
    refine u_one w15 (by omega) k15 ne12 (by show 0 < 6; decide) (by show 6 ≤ 1000; decide) fun v H16 hv o16 w16 => ?_
    have o16 := o15.trans o16
    obtain ⟨pw, rfl, hp⟩ : ∃ pw, v = .int pw ∧ -1074 ≤ pw ∧ pw ≤ 1100 := by
      simp only [List.cons_append, List.nil_append, List.mem_cons, List.not_mem_nil, or_false] at hv
      rcases hv with rfl | rfl | rfl | rfl | rfl | rfl <;> exact ⟨_, rfl, by omega, by omega⟩
    repeat walk_at "rd"
    refine w_tup3 fun a4 H4 s4 n4 h4 => ?_
    refine q a4 H4 sg t (if pw < 971 then pw else 971) (o16.same s4) ((w16.mono (by omega)).same s4) h4 ⟨hs, tl, ?_, by split <;> omega, by split <;> omega⟩
    have := pow_mono (a := bt.toNat) (b := 53) (by omega)
    rw [show (2 : Int) ^ 53 = 9007199254740992 by decide] at this
    omega
theorem u_fin {p : Addr} {n : Nat} {H : Hp} {Q : VK} {E : XK} (hw : Well n H p) (hn : n < 800000) (q : ∀ q H' s t pw, Oth p H H' → Well (n + 40) H' p → H' q = some (.tup [.int s, .int t, .int pw]) → FinA s t pw → Q (.ref q) H') : spFin ([V.ref p] ++ []) H Q E :=
  ⟨p, n, rfl, hw, hn, q⟩
theorem FinA.arg {s t p : Int} (h : FinA s t p) : Arg s (.int t) p (.fin s (red t p).1 (red t p).2) := by
  obtain ⟨hs, t0, t1, p0, p1⟩ := h
  refine .inl ⟨t, rfl, t0, hs, red_fits t0 (by omega) p0 ?_, rfl⟩
  have := bits_small t0 (k := 53) (by rw [show (2 : Int) ^ 53 = 9007199254740992 by decide]; exact t1)
  omega
end
end Nu

set_option Elab.async false
set_option linter.all false
set_option maxRecDepth 100000
set_option autoImplicit false
set_option maxHeartbeats 4000000
namespace Nu
open PySem PySem.Spec PyProof.Rows L2 Rd
local macro_rules | `(tactic| walk_at "hp") => `(tactic| first | assumption | (refine same_get ?sm ?_; (case sm => assumption); walk_at "hp"))
local macro_rules | `(tactic| walk_at "rd") => `(tactic| first
  | with_reducible refine w_nx ?_
  | with_reducible refine w_rt ?_
  | with_reducible refine w_bk ?_
  | with_reducible refine w_ct ?_
  | with_reducible refine w_seq ?_
  | with_reducible refine w_next ?_
  | with_reducible refine w_ret ?_
  | with_reducible refine w_ifS ?_
  | with_reducible refine w_asg ?_
  | with_reducible refine w_name ?_
  | with_reducible refine w_par ?_
  | with_reducible refine w_parI ?_
  | with_reducible refine w_ii ?_
  | with_reducible refine w_i1 ?_
  | with_reducible refine w_drop ?_
  | with_reducible refine w_sFld ?_
  | ((with_reducible refine' w_var ?rdh ?_); (case rdh => exact rfl))
  | with_reducible refine w_c ?_
  | with_reducible refine w_op ?_
  | with_reducible refine w_un ?_
  | with_reducible refine w_I0 ?_
  | with_reducible refine w_U ?_
  | with_reducible refine w_bits ?_
  | with_reducible refine w_bitsI ?_
  | with_reducible refine w_tup ?_
  | with_reducible refine w_lst ?_
  | with_reducible refine w_nil ?_
  | with_reducible refine w_cons ?_
  | with_reducible refine w_fld ?_
  | with_reducible refine w_call ?_
  | with_reducible refine w_make ?_
  | with_reducible refine w_gsub ?_
  | with_reducible refine w_int1 ?_
  | with_reducible refine w_intB ?_
  | with_reducible refine w_for ?_
  | with_reducible refine w_rng1 ?_
  | with_reducible refine w_iList ?_
  | with_reducible refine w_iTup ?_
  | with_reducible refine w_makeD ?_
  | with_reducible refine w_nn ?_
  | with_reducible refine w_subB ?_
  | with_reducible refine w_meth ?_
  | with_reducible refine w_cb ?_
  | with_reducible refine w_test ?_
  | with_reducible refine w_B ?_
  | with_reducible refine w_bl ?_
  | with_reducible refine w_andV ?_
  | with_reducible refine w_orV ?_
  | with_reducible refine w_notV ?_
  | with_reducible refine w_and ?_
  | with_reducible refine w_or ?_
  | with_reducible refine w_not ?_
  | with_reducible refine w_if ?_
  | with_reducible refine w_gnil ?_
  | with_reducible refine w_gcons ?_
  | with_reducible refine iT ?_
  | with_reducible refine iF ?_
  | with_reducible refine w_eqI ?_
  | with_reducible refine w_neI ?_
  | with_reducible refine w_eqS ?_
  | with_reducible refine w_eqIS ?_
  | with_reducible refine w_eqSI ?_)

abbrev s_Float_eq : Stmt := inClass (top 10) 2
abbrev s_is_number : Stmt := top 17
abbrev s_whole_of : Stmt := top 19
abbrev s_law_odd : Stmt := top 26
abbrev s_law_is_float : Stmt := top 27
abbrev s_law_said : Stmt := top 28
abbrev s_law_made_right : Stmt := top 29
abbrev s_law_edges_right : Stmt := top 30
abbrev s_law_refused_right : Stmt := top 31
abbrev s_law : Stmt := top 32
abbrev s_InvalidArgument_init : Stmt := inClass (top 3) 0
structure AllP (K : PySem.W.Frag) (mg : Str → Option Value) (CF CE CL : Addr) : Prop extends AllM K mg CF where
  b_NotImplemented : mg "NotImplemented" = none
  q_Float : EqC K CF
  ns_Float : NoSeq K CF
  i_listF : PySem.W.kitOne K (.type "list") (.ref CF) = some false
  i_tupleF : PySem.W.kitOne K (.type "tuple") (.ref CF) = some false
  i_dictF : PySem.W.kitOne K (.type "dict") (.ref CF) = some false
  x_eq : TxM K CF "__eq__" "Float.__eq__" s_Float_eq ["self", "other"]
  x_is_number : Tx K mg "is_number" "is_number" s_is_number ["thing"]
  x_whole_of : Tx K mg "whole_of" "whole_of" s_whole_of ["number"]
  g_InvalidArgument : mg "InvalidArgument" = some (.ref CE)
  a_InvalidArgument : AexC K CE
  xf_InvalidArgument : XfC K CE
  xc_InvalidArgument : ExcC K CE
  xn_part : PySem.W.findIn K (.ref CE) "part" = some none
  e_LuaError : PySem.W.exmOne K (.ref CE) (.ref CL) = some true
  e_self : PySem.W.kitOne K (.ref CE) (.ref CE) = some true
  g_LuaError : mg "LuaError" = some (.ref CL)
  r_LuaError : LErrC K CL
  x_odd : Tx K mg "_law_odd" "_law_odd" s_law_odd ["top", "power"]
  x_isf : Tx K mg "_law_is_float" "_law_is_float" s_law_is_float ["top", "power"]
  x_said : Tx K mg "_law_said" "_law_said" s_law_said ["sign", "top", "power"]
  x_made : Tx K mg "_law_made_right" "_law_made_right" s_law_made_right ["well"]
  x_edges : Tx K mg "_law_edges_right" "_law_edges_right" s_law_edges_right ["well"]
  x_refused : Tx K mg "_law_refused_right" "_law_refused_right" s_law_refused_right []
  x_law : Tx K mg "law" "law" s_law ["script"]
section
variable {P : Program} {w : World} {K : PySem.W.Frag} {mg : Str → Option Value} {base : Heap} {CF : Addr}
/-! ### == of floats -/
def fdat : V → PyData
  | .int t => .int t
  | .str x => .str x
  | _ => .none
def fall (f : Fl) : PyData := .tuple [.int f.s, fdat f.t, .int f.p]
def feq (f g : Fl) : Bool := PyData.eqv (fall f) (fall g)
theorem feq_self (f : Fl) : feq f f = true := by
  cases f <;> simp [feq, fall, fdat, Fl.s, Fl.t, Fl.p, PyData.eqv, PyData.eqvAll]
theorem fdat_dp (f : Fl) (H : Hp) : Dp K H f.t (fdat f.t) := by
  cases f with
  | fin s t p => exact .int t
  | inf s => exact .str _
  | nan => exact .str _
theorem fall_dp {f : Fl} {H : Hp} {a : Addr} (h : H a = some (.tup [.int f.s, f.t, .int f.p])) : Dp K H (.ref a) (fall f) :=
  .tup (SqT.of h) (.cons (.int _) (.cons (fdat_dp f H) (.cons (.int _) .nil)))
theorem fall_shaped (f : Fl) : SeqAt.shaped (fall f) = true := by
  have e1 : PyData.canLay0 (.str "inf") = true := by decide +kernel
  have e2 : PyData.canLay0 (.str "nan") = true := by decide +kernel
  have e3 : ∀ i : Int, PyData.canLay0 (.int i) = true := fun i => by simp [PyData.canLay0]
  have e4 : ∀ a b c : PyData, PyData.canLay0 a = true → PyData.canLay0 b = true → PyData.canLay0 c = true → PyData.canLay0 (.tuple [a, b, c]) = true := fun a b c h1 h2 h3 => by simp [PyData.canLay0, PyData.canLayAll0, h1, h2, h3]
  have e5 : PyData.canLay0 (fall f) = true := by
    cases f with
    | fin s t p => exact e4 _ _ _ (e3 _) (e3 _) (e3 _)
    | inf s => exact e4 _ _ _ (e3 _) e1 (e3 _)
    | nan => exact e4 _ _ _ (e3 _) e2 (e3 _)
  have e6 : (fall f).depth ≤ 64 := by
    cases f <;> simp [fall, fdat, Fl.t, PyData.depth, PyData.depthAll]
  unfold SeqAt.shaped
  rw [e5, decide_eq_true e6]
  rfl
def spFEq (CF : Addr) : Sp := fun vs H Q _ => ∃ a b f g, vs = [.ref a, .ref b] ∧ FlAt CF H a f ∧ FlAt CF H b g ∧ ∀ H', Same H H' → Q (.bl (feq f g)) H'
theorem sc_Float_eq : FnScope ["self", "other"] ["self", "other"] (defScope s_Float_eq) := ⟨rfl, rfl, rfl, by decide +kernel, rfl, by decide +kernel, by decide +kernel⟩
theorem ok_eq {CE CL : Addr} (T : AllP K mg CF CE CL) : KnM P w K mg base CX0 1 CF "__eq__" ["self", "other"] (spFEq CF) := by
  refine T.x_eq.kn fun f fd F => ?_
  refine F.ok sc_Float_eq (fun vs H Q E h => ?_) (fun cdv A outer s H vs Q E hr h => ?_)
  · obtain ⟨a, b, f, g, rfl, _⟩ := h
    rfl
  · obtain ⟨a, b, f, g, rfl, hf, hg, q⟩ := h
    refine ⟨_, (pss_cons (ps_if (pt_not (pt_val (pe_callB call_isi (by rfl) T.b_isinstance boot_isinstance (pa_cons (pv 1) (pa_cons (pg "Float" T.g_Float (rref _)) pa_nil))))) (pss_one ps_never) pss_nil)
      (pss_one (ps_ret (pe_cmpR (op_eqD hr.units) (pe_tup (pa_cons (pe_fld (pv 0) rfl) (pa_cons (pe_fld (pv 0) rfl) (pa_cons (pe_fld (pv 0) rfl) pa_nil)))) (pe_tup (pa_cons (pe_fld (pv 1) rfl) (pa_cons (pe_fld (pv 1) rfl) (pa_cons (pe_fld (pv 1) rfl) pa_nil)))) (nomark _))))), ?_⟩
    obtain ⟨dx, h1⟩ := id hf
    obtain ⟨dy, h2⟩ := id hg
    obtain ⟨t, ty, i1, i2, i3, i4⟩ := says_fl T.toAll h2
    repeat walk_at "rd"
    refine w_isi (.own CF) ty i4 ?_
    repeat walk_at "rd"
    refine iF ?_
    repeat walk_at "rd"
    refine w_fldI h1 T.l_Float T.n_sign (flds_s _ _ _) ?_
    repeat walk_at "rd"
    refine w_fldI h1 T.l_Float T.n_top (flds_t _ _ _) ?_
    repeat walk_at "rd"
    refine w_fldI h1 T.l_Float T.n_power (flds_p _ _ _) ?_
    repeat walk_at "rd"
    refine w_tup3 fun a1 H1 s1 n1 e1 => ?_
    repeat walk_at "rd"
    refine w_fldI (s1 _ _ h2) T.l_Float T.n_sign (flds_s _ _ _) ?_
    repeat walk_at "rd"
    refine w_fldI (s1 _ _ h2) T.l_Float T.n_top (flds_t _ _ _) ?_
    repeat walk_at "rd"
    refine w_fldI (s1 _ _ h2) T.l_Float T.n_power (flds_p _ _ _) ?_
    repeat walk_at "rd"
    refine w_tup3 fun a2 H2 s2 n2 e2 => ?_
    exact w_eqD (fall_dp (s2 _ _ e1)) (fall_dp e2) (fall_shaped f) (fall_shaped g) (q H2 (s1.trans s2))
theorem u_eqF {a b : Addr} {f : Fl} {g : Bool → Bool} {H : Hp} {Q : VK} (ha : FlAt CF H a f) (hb : FlAt CF H b f) (q : ∀ H', Same H H' → Q (.bl (g true)) H') : rOwn CF g (spFEq CF) (.ref a) (.ref b) H Q := by
  obtain ⟨dx, h1⟩ := id ha
  obtain ⟨dy, h2⟩ := id hb
  exact w_own h1 h2 ⟨a, b, f, f, rfl, ha, hb, fun H' s => ⟨_, rfl, by rw [feq_self]; exact q H' s⟩⟩
theorem oth_ty {CE CL : Addr} (T : AllP K mg CF CE CL) {H : Hp} {y : V} (h : OthV H y) : ∃ t, TyX K H y t ∧ PySem.W.kitOne K t (.ref CF) = some false := by
  cases h with
  | non => exact ⟨_, .base .non, T.i_nonF⟩
  | int i => exact ⟨_, .base (.int i), T.i_intF⟩
  | str z => exact ⟨_, .base (.str z), T.i_strF⟩
  | lst h => exact ⟨_, .base (.lst h), T.i_listF⟩
  | tup h => exact ⟨_, .base (.tup h), T.i_tupleF⟩
theorem _root_.Rd.OthV.same {H H' : Hp} {y : V} (h : OthV H y) (s : Same H H') : OthV H' y := by
  cases h with
  | non => exact .non
  | int i => exact .int i
  | str z => exact .str z
  | lst h => exact .lst (s _ _ h)
  | tup h => exact .tup (s _ _ h)
theorem ok_eqNi {CE CL : Addr} (T : AllP K mg CF CE CL) : KnNi P w K mg base 1 CF := by
  refine T.x_eq.ni fun f fd F => ?_
  refine ni_ok F sc_Float_eq (fun vs H Q h => ?_) rfl T.b_NotImplemented (fun _ _ _ _ _ _ => rfl) (fun cdv A outer s H vs Q hr h => ?_)
  · obtain ⟨a, dx, fs, y, rfl, _⟩ := h
    rfl
  · obtain ⟨a, dx, fs, y, rfl, ha, hy, q⟩ := h
    refine ⟨_, (pt_not (pt_val (pe_callB call_isi (by rfl) T.b_isinstance boot_isinstance (pa_cons (pv 1) (pa_cons (pg "Float" T.g_Float (rref _)) pa_nil))))), ?_⟩
    obtain ⟨t, ty, e⟩ := oth_ty T hy
    repeat walk_at "rd"
    refine w_isi (.own CF) ty e ?_
    repeat walk_at "rd"
    exact ⟨rfl, q⟩
end
end Nu

set_option Elab.async false
set_option linter.all false
set_option maxRecDepth 100000
set_option autoImplicit false
set_option maxHeartbeats 4000000
namespace Nu
open PySem PySem.Spec PyProof.Rows L2 Rd
local macro_rules | `(tactic| walk_at "hp") => `(tactic| first | assumption | (refine same_get ?sm ?_; (case sm => assumption); walk_at "hp"))
local macro_rules | `(tactic| walk_at "rd") => `(tactic| first
  | with_reducible refine w_nx ?_
  | with_reducible refine w_rt ?_
  | with_reducible refine w_bk ?_
  | with_reducible refine w_ct ?_
  | with_reducible refine w_seq ?_
  | with_reducible refine w_next ?_
  | with_reducible refine w_ret ?_
  | with_reducible refine w_ifS ?_
  | with_reducible refine w_asg ?_
  | with_reducible refine w_name ?_
  | with_reducible refine w_par ?_
  | with_reducible refine w_parI ?_
  | with_reducible refine w_ii ?_
  | with_reducible refine w_i1 ?_
  | with_reducible refine w_drop ?_
  | with_reducible refine w_sFld ?_
  | ((with_reducible refine' w_var ?rdh ?_); (case rdh => exact rfl))
  | with_reducible refine w_c ?_
  | with_reducible refine w_op ?_
  | with_reducible refine w_un ?_
  | with_reducible refine w_I0 ?_
  | with_reducible refine w_U ?_
  | with_reducible refine w_bits ?_
  | with_reducible refine w_bitsI ?_
  | with_reducible refine w_tup ?_
  | with_reducible refine w_lst ?_
  | with_reducible refine w_nil ?_
  | with_reducible refine w_cons ?_
  | with_reducible refine w_fld ?_
  | with_reducible refine w_call ?_
  | with_reducible refine w_make ?_
  | with_reducible refine w_gsub ?_
  | with_reducible refine w_int1 ?_
  | with_reducible refine w_intB ?_
  | with_reducible refine w_for ?_
  | with_reducible refine w_rng1 ?_
  | with_reducible refine w_iList ?_
  | with_reducible refine w_iTup ?_
  | with_reducible refine w_makeD ?_
  | with_reducible refine w_nn ?_
  | with_reducible refine w_subB ?_
  | with_reducible refine w_meth ?_
  | with_reducible refine w_cb ?_
  | with_reducible refine w_test ?_
  | with_reducible refine w_B ?_
  | with_reducible refine w_bl ?_
  | with_reducible refine w_andV ?_
  | with_reducible refine w_orV ?_
  | with_reducible refine w_notV ?_
  | with_reducible refine w_and ?_
  | with_reducible refine w_or ?_
  | with_reducible refine w_not ?_
  | with_reducible refine w_if ?_
  | with_reducible refine w_gnil ?_
  | with_reducible refine w_gcons ?_
  | with_reducible refine iT ?_
  | with_reducible refine iF ?_
  | with_reducible refine w_eqI ?_
  | with_reducible refine w_neI ?_
  | with_reducible refine w_eqS ?_
  | with_reducible refine w_eqIS ?_
  | with_reducible refine w_eqSI ?_)

def XfK (a : Addr) (cls : Value) (d : Option Addr) (C : Addr) (f : Str) (x : L2.V) (H1 : Hp) (Q : VK) : Prop := x = .ref a ∧ cls = .ref C ∧ ∃ (dd : Addr) (fs : List (Str × L2.V)) (v : L2.V), d = some dd ∧ H1 dd = some (.xd fs) ∧ fs.lookup f = some v ∧ Q v H1
theorem w_xf {a : Addr} {cls : Value} {d : Option Addr} {C : Addr} {f : Str} {te : TE} {Q : VK} {σ : L2.St} {H : Hp} (h : te σ H fun x H1 => XfK a cls d C f x H1 Q) : tXf a cls d C f te σ H Q := h
theorem w_xfI {a dd C : Addr} {f : Str} {fs : List (Str × V)} {v : V} {Q : VK} {H : Hp} (e : H dd = some (.xd fs)) (l : fs.lookup f = some v) (q : Q v H) : XfK a (.ref C) (some dd) C f (.ref a) H Q := ⟨rfl, rfl, dd, fs, v, rfl, e, l, q⟩
theorem w_makeS {C : Addr} {sp : Sp} {E : L2.St → XK} {t : TA} {σ : L2.St} {H : Hp} {Q : VK} (h : t σ H fun vs H1 => MakeK C sp vs H1 Q (E σ)) : tMakeS C sp E t σ H Q := h
section
variable {P : Program} {w : World} {K : PySem.W.Frag} {mg : Str → Option Value} {base : Heap} {CF CE CL : Addr}
/-- the way out by an error that tells a part; x is being made -/
def ErrX (CE x : Addr) (part : Str) (H : Hp) (E : XK) : Prop := ∀ d H', Oth x H H' → H' d = some (.xd (parFs (.str part))) → E (.ref CE) (some d) H'
/-- no plain int -/
inductive NP (H : Hp) : L2.V → Prop
  | non : NP H .non
  | bl (b : Bool) : NP H (.bl b)
  | str (z : Str) : NP H (.str z)
  | lst {a : Addr} {xs : List L2.V} (h : H a = some (.lst xs)) : NP H (.ref a)
  | tup {a : Addr} {xs : List L2.V} (h : H a = some (.tup xs)) : NP H (.ref a)
  | dic {a : Addr} {xs : List (Key × L2.V)} (h : H a = some (.dK xs)) : NP H (.ref a)
theorem NP.same {H H' : Hp} {v : L2.V} (h : NP H v) (s : Same H H') : NP H' v := by
  cases h with
  | non => exact .non
  | bl b => exact .bl b
  | str z => exact .str z
  | lst h => exact .lst (s _ _ h)
  | tup h => exact .tup (s _ _ h)
  | dic h => exact .dic (s _ _ h)
theorem NP.says (T : AllP K mg CF CE CL) {H : Hp} {v : L2.V} (h : NP H v) : ∃ bo st, Says K CF H v false bo st false ∧ ((∃ z, v = .str z ∧ st = true) ∨ st = false) := by
  cases h with
  | non => exact ⟨_, _, says_non T.toAll, .inr rfl⟩
  | bl b => exact ⟨_, _, says_bl T.toAll, .inr rfl⟩
  | str z => exact ⟨_, _, says_str T.toAll, .inl ⟨z, rfl, rfl⟩⟩
  | lst h => exact ⟨false, false, ⟨_, .base (.lst h), kit_ty (by decide +kernel), kit_ty (by decide +kernel), kit_ty (by decide +kernel), T.i_listF⟩, .inr rfl⟩
  | tup h => exact ⟨false, false, ⟨_, .base (.tup h), kit_ty (by decide +kernel), kit_ty (by decide +kernel), kit_ty (by decide +kernel), T.i_tupleF⟩, .inr rfl⟩
  | dic h => exact ⟨false, false, ⟨_, .base (.dK h), kit_ty (by decide +kernel), kit_ty (by decide +kernel), kit_ty (by decide +kernel), T.i_dictF⟩, .inr rfl⟩
theorem u_plain_np (T : AllP K mg CF CE CL) {v : L2.V} {H : Hp} {Q : VK} {E : XK} (h : NP H v) (q : Q (.bl false) H) : spPlain K CF ([v] ++ []) H Q E := by
  obtain ⟨bo, st, s, _⟩ := h.says T
  refine ⟨v, false, bo, st, false, rfl, s, ?_⟩
  cases bo <;> exact q
/-- arguments that are refused, and by which part -/
inductive BadA (H : Hp) : L2.V → L2.V → L2.V → Str → Prop
  | sg {s t p : L2.V} (h : NP H s) : BadA H s t p "sign"
  | si {i : Int} {t p : L2.V} (h1 : i ≠ 1) (h2 : i ≠ -1) : BadA H (.int i) t p "sign"
  | nn {p : L2.V} : BadA H (.int (-1)) (.str "nan") p "sign"
  | pw {s : Int} {z : Str} {p : L2.V} (hs : s = 1 ∨ s = -1) (hz : z = "inf" ∨ (z = "nan" ∧ s = 1)) (h : NP H p) : BadA H (.int s) (.str z) p "power"
  | pi {s i : Int} {z : Str} (hs : s = 1 ∨ s = -1) (hz : z = "inf" ∨ (z = "nan" ∧ s = 1)) (h : i ≠ 0) : BadA H (.int s) (.str z) (.int i) "power"
  | tn {s : Int} {t p : L2.V} (hs : s = 1 ∨ s = -1) (h : NP H t) (hn : t ≠ .str "inf" ∧ t ≠ .str "nan") : BadA H (.int s) t p "top"
  | tm {s i : Int} {p : L2.V} (hs : s = 1 ∨ s = -1) (h : i < 0) : BadA H (.int s) (.int i) p "top"
  | tp {s i : Int} {p : L2.V} (hs : s = 1 ∨ s = -1) (h0 : 0 ≤ i) (h : NP H p) : BadA H (.int s) (.int i) p "power"
  | ft {s t p : Int} (hs : s = 1 ∨ s = -1) (h0 : 0 ≤ t) (h : fitsB (red t p).1 (red t p).2 = false) : BadA H (.int s) (.int t) (.int p) "top"
theorem BadA.same {H H' : Hp} {a b c : L2.V} {z : Str} (h : BadA H a b c z) (s : Same H H') : BadA H' a b c z := by
  cases h with
  | sg h => exact .sg (h.same s)
  | si h1 h2 => exact .si h1 h2
  | nn => exact .nn
  | pw hs hz h => exact .pw hs hz (h.same s)
  | pi hs hz h => exact .pi hs hz h
  | tn hs h hn => exact .tn hs (h.same s) hn
  | tm hs h => exact .tm hs h
  | tp hs h0 h => exact .tp hs h0 (h.same s)
  | ft hs h0 h => exact .ft hs h0 h
def spInitX (C CE : Addr) : Sp := fun vs H Q E => ∃ x dx sv tv wv, vs = [.ref x, sv, tv, wv] ∧ H x = some (.ins C dx []) ∧
  ((∃ part, BadA H sv tv wv part ∧ ErrX CE x part H E) ∨
   (∃ s p f, sv = .int s ∧ wv = .int p ∧ Arg s tv p f ∧ ∀ H', (∀ b o, b ≠ x → H b = some o → H' b = some o) → H' x = some (.ins C dx (flds f.s f.t f.p)) → Q .non H'))
theorem w_invX {C x : Addr} {v : L2.V} {H H1 : Hp} {E : XK} {part : Str} (q : ErrX C x part H E) (o : Oth x H H1) : MkOK C (spInv C) [] [.str part] H1 fun cls d H' => E cls d H' :=
  w_invI fun d H' s2 n1 e1 => q d H' (o.same s2) e1
theorem ok_initX (T : AllP K mg CF CE CL) (k_InvalidArgument : KnIA P w K mg base CE) (k_is_plain : Kn P w K mg base CX0 1 "is_plain" ["number"] (spPlain K CF)) (k_reduced : Kn P w K mg base CX0 1 "reduced" ["top", "power"] spReduced) (k_fits : Kn P w K mg base CX0 1 "fits" ["top", "power"] spFits) :
    KnC P w K mg base (L2.CX P w) 3 "Float" CF ["self", "sign", "top", "power"] (spInitX CF CE) := by
  refine T.x_init.kn fun f fd F => ?_
  refine F.okX sc_Float_init (fun vs H Q E h => ?_) (fun cdv A outer s H vs Q E hr h => ?_)
  · obtain ⟨x, dx, s, tv, p, rfl, _⟩ := h
    rfl
  · obtain ⟨x, dx, sv, tv, wv, rfl, hx, cs⟩ := h
    refine ⟨_, (pss_cons (ps_if (PW.pt (pw_or (pt_not (pt_val (pk k_is_plain hr (pa_cons (pv 1) pa_nil)))) (pw_or1 (pt_cmpR op_notIn_seq (pv 1) (pe_tup (pa_cons pe_int (pa_cons (pe_un un_neg pe_int) pa_nil))) rfl)))) (pss_one (ps_inv rfl k_InvalidArgument hr (takes_of rfl rfl rfl rfl) (pa_cons pe_str pa_nil))) pss_nil)
      (C8.pss_cut (ps_if (PW.pt (pw_and (pt_val (pe_callB call_isi (by rfl) T.b_isinstance boot_isinstance (pa_cons (pv 2) (pa_cons (pe_bltn (by rfl) T.b_str boot_str (rty _)) pa_nil)))) (pw_and1 (pt_cmpR op_in_seq (pv 2) (pe_tup (pa_cons pe_str (pa_cons pe_str pa_nil))) rfl)))) (pss_cons (ps_if (PW.pt (pw_and (pt_cmpR op_eq (pv 2) pe_str (nomark _)) (pw_and1 (pt_cmpR op_eq (pv 1) (pe_un un_neg pe_int) (nomark _))))) (pss_one (ps_inv rfl k_InvalidArgument hr (takes_of rfl rfl rfl rfl) (pa_cons pe_str pa_nil))) pss_nil)
      (pss_one (ps_if (PW.pt (pw_or (pt_not (pt_val (pk k_is_plain hr (pa_cons (pv 3) pa_nil)))) (pw_or1 (pt_cmpR op_ne (pv 3) pe_int (nomark _))))) (pss_one (ps_inv rfl k_InvalidArgument hr (takes_of rfl rfl rfl rfl) (pa_cons pe_str pa_nil))) pss_nil))) (pss_one (ps_if (PW.pt (pw_or (pt_not (pt_val (pk k_is_plain hr (pa_cons (pv 2) pa_nil)))) (pw_or1 (pt_cmpR op_lt (pv 2) pe_int (nomark _))))) (pss_one (ps_inv rfl k_InvalidArgument hr (takes_of rfl rfl rfl rfl) (pa_cons pe_str pa_nil))) (pss_one (ps_if (pt_not (pt_val (pk k_is_plain hr (pa_cons (pv 3) pa_nil)))) (pss_one (ps_inv rfl k_InvalidArgument hr (takes_of rfl rfl rfl rfl) (pa_cons pe_str pa_nil))) pss_nil)))))
      (pss_cons (ps_fld (pv 0) (pv 1) rfl)
      (pss_cons (ps_asg (pk k_reduced hr (pa_cons (pv 2) (pa_cons (pv 3) pa_nil))) (pg_tup (by rfl) (pgs_cons (pg_fld (pv 0)) (pgs_cons (pg_fld (pv 0)) pgs_nil))))
      (pss_one (ps_if (PW.pt (pw_and (pt_cmpR op_notIn_seq (pe_fld (pv 0) rfl) (pe_tup (pa_cons pe_str (pa_cons pe_str pa_nil))) rfl) (pw_and1 (pt_not (pt_val (pk k_fits hr (pa_cons (pe_fld (pv 0) rfl) (pa_cons (pe_fld (pv 0) rfl) pa_nil)))))))) (pss_one (ps_inv rfl k_InvalidArgument hr (takes_of rfl rfl rfl rfl) (pa_cons pe_str pa_nil))) pss_nil)))))), ?_⟩
    rcases cs with ⟨part, hb, er⟩ | ⟨s, p, f, rfl, rfl, a, q⟩
    · have sgn : ∀ (s : Int) (Q : VK) (H1 : Hp) (a1 : Addr), (s = 1 ∨ s = -1) → H1 a1 = some (.tup [.int 1, .int (-1)]) → Q (.bl false) H1 → rIn K true (.int s) (.ref a1) H1 Q := fun s Q H1 a1 hs h1 q => by
        refine w_nin h1 rfl rfl ?_
        have e1 : (!inV (V.int s) [V.int 1, V.int (-1)]) = false := by rcases hs with rfl | rfl <;> rfl
        rw [e1]
        exact q
      cases hb with
      | sg h =>
        repeat walk_at "rd"
        refine u_plain_np T h ?_
        repeat walk_at "rd"
        refine iT ?_
        repeat walk_at "rd"
        refine w_inv ?_
        repeat walk_at "rd"
        exact w_invX (v := .non) er Oth.refl
      | @si i t p i1 i2 =>
        repeat walk_at "rd"
        refine u_plain_int T.toAll ?_
        repeat walk_at "rd"
        refine iF ?_
        repeat walk_at "rd"
        refine w_tup2 fun a1 H1 s1 n1 h1 => ?_
        refine w_nin h1 rfl rfl ?_
        have e1 : (!inV (V.int i) [V.int 1, V.int (-1)]) = true := by simp [inV, eqV, Ne.symm i1, Ne.symm i2]
        rw [e1]
        repeat walk_at "rd"
        refine w_inv ?_
        repeat walk_at "rd"
        exact w_invX (v := .non) er (Rd.Same.oth s1)
      | @nn p =>
        repeat walk_at "rd"
        refine u_plain_int T.toAll ?_
        repeat walk_at "rd"
        refine iF ?_
        repeat walk_at "rd"
        refine w_tup2 fun a1 H1 s1 n1 h1 => ?_
        refine sgn _ _ _ _ (.inr rfl) h1 ?_
        repeat walk_at "rd"
        refine w_cut (Mid := fun _ _ => False) ?_ (fun _ _ h => h.elim)
        repeat walk_at "rd"
        refine w_isi (.ty "str") (.base (.str _)) (kit_ty (b := "str") (r := true) (by decide +kernel)) ?_
        repeat walk_at "rd"
        refine w_tup2 fun a2 H2 s2 n2 h2 => ?_
        refine w_in h2 rfl rfl ?_
        repeat walk_at "rd"
        refine iT ?_
        repeat walk_at "rd"
        refine iD (fun _ => ?_) (fun z => absurd rfl z)
        repeat walk_at "rd"
        refine iD (fun _ => ?_) (fun z => absurd rfl z)
        repeat walk_at "rd"
        refine w_inv ?_
        repeat walk_at "rd"
        exact w_invX (v := .non) er (Rd.Same.oth (s1.trans s2))
      | @pw s z p hs hz h =>
        repeat walk_at "rd"
        refine u_plain_int T.toAll ?_
        repeat walk_at "rd"
        refine iF ?_
        repeat walk_at "rd"
        refine w_tup2 fun a1 H1 s1 n1 h1 => ?_
        refine sgn _ _ _ _ hs h1 ?_
        repeat walk_at "rd"
        refine w_cut (Mid := fun _ _ => False) ?_ (fun _ _ h => h.elim)
        repeat walk_at "rd"
        refine w_isi (.ty "str") (.base (.str _)) (kit_ty (b := "str") (r := true) (by decide +kernel)) ?_
        repeat walk_at "rd"
        refine w_tup2 fun a2 H2 s2 n2 h2 => ?_
        refine w_in h2 rfl rfl ?_
        rcases hz with rfl | ⟨rfl, rfl⟩
        · repeat walk_at "rd"
          refine iT ?_
          repeat walk_at "rd"
          refine iD (fun z => absurd z (by decide +kernel)) (fun _ => ?_)
          repeat walk_at "rd"
          refine u_plain_np T ((h.same s1).same s2) ?_
          repeat walk_at "rd"
          refine iT ?_
          repeat walk_at "rd"
          refine w_inv ?_
          repeat walk_at "rd"
          exact w_invX (v := .non) er (Rd.Same.oth (s1.trans s2))
        · repeat walk_at "rd"
          refine iT ?_
          repeat walk_at "rd"
          refine iD (fun _ => ?_) (fun z => absurd rfl z)
          repeat walk_at "rd"
          refine iD (fun z => absurd z (by decide)) (fun _ => ?_)
          repeat walk_at "rd"
          refine u_plain_np T ((h.same s1).same s2) ?_
          repeat walk_at "rd"
          refine iT ?_
          repeat walk_at "rd"
          refine w_inv ?_
          repeat walk_at "rd"
          exact w_invX (v := .non) er (Rd.Same.oth (s1.trans s2))
      | @pi s i z hs hz h =>
        repeat walk_at "rd"
        refine u_plain_int T.toAll ?_
        repeat walk_at "rd"
        refine iF ?_
        repeat walk_at "rd"
        refine w_tup2 fun a1 H1 s1 n1 h1 => ?_
        refine sgn _ _ _ _ hs h1 ?_
        repeat walk_at "rd"
        refine w_cut (Mid := fun _ _ => False) ?_ (fun _ _ h => h.elim)
        repeat walk_at "rd"
        refine w_isi (.ty "str") (.base (.str _)) (kit_ty (b := "str") (r := true) (by decide +kernel)) ?_
        repeat walk_at "rd"
        refine w_tup2 fun a2 H2 s2 n2 h2 => ?_
        refine w_in h2 rfl rfl ?_
        rcases hz with rfl | ⟨rfl, rfl⟩
        · repeat walk_at "rd"
          refine iT ?_
          repeat walk_at "rd"
          refine iD (fun z => absurd z (by decide +kernel)) (fun _ => ?_)
          repeat walk_at "rd"
          refine u_plain_int T.toAll ?_
          repeat walk_at "rd"
          refine iF ?_
          repeat walk_at "rd"
          refine iN (fun _ => ?_) (fun z => absurd z h)
          repeat walk_at "rd"
          refine w_inv ?_
          repeat walk_at "rd"
          exact w_invX (v := .non) er (Rd.Same.oth (s1.trans s2))
        · repeat walk_at "rd"
          refine iT ?_
          repeat walk_at "rd"
          refine iD (fun _ => ?_) (fun z => absurd rfl z)
          repeat walk_at "rd"
          refine iD (fun z => absurd z (by decide)) (fun _ => ?_)
          repeat walk_at "rd"
          refine u_plain_int T.toAll ?_
          repeat walk_at "rd"
          refine iF ?_
          repeat walk_at "rd"
          refine iN (fun _ => ?_) (fun z => absurd z h)
          repeat walk_at "rd"
          refine w_inv ?_
          repeat walk_at "rd"
          exact w_invX (v := .non) er (Rd.Same.oth (s1.trans s2))
      | @tn s t p hs h hn =>
        repeat walk_at "rd"
        refine u_plain_int T.toAll ?_
        repeat walk_at "rd"
        refine iF ?_
        repeat walk_at "rd"
        refine w_tup2 fun a1 H1 s1 n1 h1 => ?_
        refine sgn _ _ _ _ hs h1 ?_
        repeat walk_at "rd"
        refine w_cut (Mid := fun _ _ => False) ?_ (fun _ _ h => h.elim)
        repeat walk_at "rd"
        have h' := h.same s1
        obtain ⟨bo, st, ⟨ty, tyx, i1, i2, i3, i4⟩, ss⟩ := h'.says T
        refine w_isi (.ty "str") tyx i3 ?_
        repeat walk_at "rd"
        rcases ss with ⟨z, rfl, rfl⟩ | rfl
        · refine iT ?_
          repeat walk_at "rd"
          refine w_tup2 fun a2 H2 s2 n2 h2 => ?_
          refine w_in h2 rfl rfl ?_
          have e1 : inV (V.str z) [V.str "inf", V.str "nan"] = false := by
            have n1 : z ≠ "inf" := fun e => hn.1 (by rw [e])
            have n2 : z ≠ "nan" := fun e => hn.2 (by rw [e])
            simp [inV, eqV, Ne.symm n1, Ne.symm n2]
          rw [e1]
          repeat walk_at "rd"
          refine u_plain_np T (h'.same s2) ?_
          repeat walk_at "rd"
          refine iT ?_
          repeat walk_at "rd"
          refine w_inv ?_
          repeat walk_at "rd"
          exact w_invX (v := .non) er (Rd.Same.oth (s1.trans s2))
        · refine iF ?_
          repeat walk_at "rd"
          refine u_plain_np T h' ?_
          repeat walk_at "rd"
          refine iT ?_
          repeat walk_at "rd"
          refine w_inv ?_
          repeat walk_at "rd"
          exact w_invX (v := .non) er (Rd.Same.oth s1)
      | @tm s i p hs h =>
        repeat walk_at "rd"
        refine u_plain_int T.toAll ?_
        repeat walk_at "rd"
        refine iF ?_
        repeat walk_at "rd"
        refine w_tup2 fun a1 H1 s1 n1 h1 => ?_
        refine sgn _ _ _ _ hs h1 ?_
        repeat walk_at "rd"
        refine w_cut (Mid := fun _ _ => False) ?_ (fun _ _ h => h.elim)
        repeat walk_at "rd"
        refine w_isi (.ty "str") (.base (.int i)) (kit_ty (b := "str") (r := false) (by decide +kernel)) ?_
        repeat walk_at "rd"
        refine u_plain_int T.toAll ?_
        repeat walk_at "rd"
        refine iF ?_
        repeat walk_at "rd"
        refine iD (fun _ => ?_) (fun z => absurd h z)
        repeat walk_at "rd"
        refine w_inv ?_
        repeat walk_at "rd"
        exact w_invX (v := .non) er (Rd.Same.oth s1)
      | @tp s i p hs h0 h =>
        repeat walk_at "rd"
        refine u_plain_int T.toAll ?_
        repeat walk_at "rd"
        refine iF ?_
        repeat walk_at "rd"
        refine w_tup2 fun a1 H1 s1 n1 h1 => ?_
        refine sgn _ _ _ _ hs h1 ?_
        repeat walk_at "rd"
        refine w_cut (Mid := fun _ _ => False) ?_ (fun _ _ h => h.elim)
        repeat walk_at "rd"
        refine w_isi (.ty "str") (.base (.int i)) (kit_ty (b := "str") (r := false) (by decide +kernel)) ?_
        repeat walk_at "rd"
        refine u_plain_int T.toAll ?_
        repeat walk_at "rd"
        refine iF ?_
        repeat walk_at "rd"
        refine iD (fun z => by omega) (fun _ => ?_)
        repeat walk_at "rd"
        refine u_plain_np T (h.same s1) ?_
        repeat walk_at "rd"
        refine iT ?_
        repeat walk_at "rd"
        refine w_inv ?_
        repeat walk_at "rd"
        exact w_invX (v := .non) er (Rd.Same.oth s1)
      | @ft s t p hs h0 h =>
        repeat walk_at "rd"
        refine u_plain_int T.toAll ?_
        repeat walk_at "rd"
        refine iF ?_
        repeat walk_at "rd"
        refine w_tup2 fun a1 H1 s1 n1 h1 => ?_
        refine sgn _ _ _ _ hs h1 ?_
        repeat walk_at "rd"
        refine w_cut (Mid := fun σ' H' => σ' = start ["self", "sign", "top", "power"] [.ref x, .int s, .int t, .int p] ∧ Same H H') ?_ ?_
        · repeat walk_at "rd"
          refine w_isi (.ty "str") (.base (.int t)) (kit_ty (b := "str") (r := false) (by decide +kernel)) ?_
          repeat walk_at "rd"
          refine u_plain_int T.toAll ?_
          repeat walk_at "rd"
          refine iF ?_
          repeat walk_at "rd"
          refine iD (fun z => by omega) (fun _ => ?_)
          repeat walk_at "rd"
          refine u_plain_int T.toAll ?_
          repeat walk_at "rd"
          refine iF ?_
          repeat walk_at "rd"
          exact ⟨rfl, s1⟩
        · rintro σ' H3 ⟨rfl, s3⟩
          have hx3 := s3 _ _ hx
          repeat walk_at "rd"
          refine w_sfI hx3 T.l_Float T.n_sign (by decide) ?_
          repeat walk_at "rd"
          refine u_reduced (.inl ⟨_, rfl, h0⟩) fun a4 H4 s4 h4 => ?_
          have hx4 : H4 x = some (.ins CF dx (putF "sign" (.int s) [])) := s4 _ _ upd_same
          refine w_gtup h4 rfl ?_
          repeat walk_at "rd"
          refine w_gFld ?_
          repeat walk_at "rd"
          refine w_sfI hx4 T.l_Float T.n_top (by show 1 < 1000; decide) ?_
          repeat walk_at "rd"
          refine w_gFld ?_
          repeat walk_at "rd"
          refine w_sfI upd_same T.l_Float T.n_power (len_put _ _ _ (n := 2) (by show 1 < 2; decide) (by decide)) ?_
          repeat walk_at "rd"
          rw [upd_upd]
          have ef : (putF "power" (.int (redV (.int t) p).2) (putF "top" (redV (.int t) p).1 (putF "sign" (.int s) []))) = flds s (.int (red t p).1) (red t p).2 := rfl
          rw [ef]
          generalize eH5 : upd H4 x (.ins CF dx (flds s (.int (red t p).1) (red t p).2)) = H5
          have hx5 : H5 x = some (.ins CF dx (flds s (.int (red t p).1) (red t p).2)) := by rw [← eH5]; exact upd_same
          have k5 : ∀ b o, b ≠ x → H b = some o → H5 b = some o := fun b o hb e => by
            rw [← eH5, upd_ne hb]
            exact s4 _ _ (by rw [upd_ne hb]; exact s3 _ _ e)
          refine w_fldI hx5 T.l_Float T.n_top (flds_t _ _ _) ?_
          repeat walk_at "rd"
          refine w_tup2 fun a6 H6 s6 n6 h6 => ?_
          have hx6 := s6 _ _ hx5
          have k6 : ∀ b o, b ≠ x → H b = some o → H6 b = some o := fun b o hb e => s6 _ _ (k5 b o hb e)
          refine w_nin h6 rfl rfl ?_
          repeat walk_at "rd"
          refine iT ?_
          repeat walk_at "rd"
          refine w_fldI hx6 T.l_Float T.n_top (flds_t _ _ _) ?_
          repeat walk_at "rd"
          refine w_fldI hx6 T.l_Float T.n_power (flds_p _ _ _) ?_
          repeat walk_at "rd"
          refine u_fits ?_
          repeat walk_at "rd"
          show if (!fitsB (red t p).1 (red t p).2) = true then _ else _
          rw [h]
          refine iT ?_
          repeat walk_at "rd"
          refine w_inv ?_
          repeat walk_at "rd"
          exact w_invX (v := .non) er k6
    · have hs : s = 1 ∨ s = -1 := by rcases a with ⟨t, _, _, h, _, _⟩ | ⟨_, _, h, _⟩ | ⟨_, _, h, _⟩ <;> first | exact h | exact .inl h
      repeat walk_at "rd"
      refine u_plain_int T.toAll ?_
      repeat walk_at "rd"
      refine iF ?_
      repeat walk_at "rd"
      refine w_tup2 fun a1 H1 s1 n1 h1 => ?_
      refine w_nin h1 rfl rfl ?_
      repeat walk_at "rd"
      have e1 : (!inV (V.int s) [V.int 1, V.int (-1)]) = false := by rcases hs with rfl | rfl <;> rfl
      rw [e1]
      refine iF ?_
      repeat walk_at "rd"
      refine w_cut (Mid := fun σ' H' => σ' = start ["self", "sign", "top", "power"] [.ref x, .int s, tv, .int p] ∧ Same H H') ?_ ?_
      · repeat walk_at "rd"
        rcases a with ⟨t, rfl, h0, _, hf, rfl⟩ | ⟨rfl, rfl, _, rfl⟩ | ⟨rfl, rfl, rfl, rfl⟩
        · refine w_isi (.ty "str") (.base (.int t)) (kit_ty (b := "str") (r := false) (by decide +kernel)) ?_
          repeat walk_at "rd"
          refine u_plain_int T.toAll ?_
          repeat walk_at "rd"
          refine iF ?_
          repeat walk_at "rd"
          refine iD (fun z => by omega) (fun _ => ?_)
          repeat walk_at "rd"
          refine u_plain_int T.toAll ?_
          repeat walk_at "rd"
          refine iF ?_
          repeat walk_at "rd"
          exact ⟨rfl, s1⟩
        · refine w_isi (.ty "str") (.base (.str _)) (kit_ty (b := "str") (r := true) (by decide +kernel)) ?_
          repeat walk_at "rd"
          refine w_tup2 fun a2 H2 s2 n2 h2 => ?_
          refine w_in h2 rfl rfl ?_
          repeat walk_at "rd"
          refine iT ?_
          repeat walk_at "rd"
          refine iD (fun z => absurd z (by decide +kernel)) (fun _ => ?_)
          repeat walk_at "rd"
          refine u_plain_int T.toAll ?_
          repeat walk_at "rd"
          refine iF ?_
          repeat walk_at "rd"
          refine iN (fun z => absurd rfl z) (fun _ => ?_)
          repeat walk_at "rd"
          exact ⟨rfl, s1.trans s2⟩
        · refine w_isi (.ty "str") (.base (.str _)) (kit_ty (b := "str") (r := true) (by decide +kernel)) ?_
          repeat walk_at "rd"
          refine w_tup2 fun a2 H2 s2 n2 h2 => ?_
          refine w_in h2 rfl rfl ?_
          repeat walk_at "rd"
          refine iT ?_
          repeat walk_at "rd"
          refine iD (fun _ => ?_) (fun z => absurd rfl z)
          repeat walk_at "rd"
          refine iD (fun z => absurd z (by decide)) (fun _ => ?_)
          repeat walk_at "rd"
          refine u_plain_int T.toAll ?_
          repeat walk_at "rd"
          refine iF ?_
          repeat walk_at "rd"
          refine iN (fun z => absurd rfl z) (fun _ => ?_)
          repeat walk_at "rd"
          exact ⟨rfl, s1.trans s2⟩
      · rintro σ' H3 ⟨rfl, s3⟩
        obtain ⟨e1, e2, e3⟩ := a.redV
        have hx3 := s3 _ _ hx
        repeat walk_at "rd"
        refine w_sfI hx3 T.l_Float T.n_sign (by decide) ?_
        repeat walk_at "rd"
        refine u_reduced (by rcases a with ⟨t, rfl, h0, _⟩ | ⟨rfl, _⟩ | ⟨rfl, _⟩ <;> first | exact .inl ⟨_, rfl, h0⟩ | exact .inr (.inl rfl) | exact .inr (.inr rfl)) fun a4 H4 s4 h4 => ?_
        have hx4 : H4 x = some (.ins CF dx (putF "sign" (.int s) [])) := s4 _ _ upd_same
        refine w_gtup h4 rfl ?_
        repeat walk_at "rd"
        refine w_gFld ?_
        repeat walk_at "rd"
        refine w_sfI hx4 T.l_Float T.n_top (by show 1 < 1000; decide) ?_
        repeat walk_at "rd"
        refine w_gFld ?_
        repeat walk_at "rd"
        refine w_sfI upd_same T.l_Float T.n_power (len_put _ _ _ (n := 2) (by show 1 < 2; decide) (by decide)) ?_
        repeat walk_at "rd"
        rw [upd_upd]
        have ef : (putF "power" (.int (redV tv p).2) (putF "top" (redV tv p).1 (putF "sign" (.int s) []))) = flds f.s f.t f.p := by rw [e1, e2, e3]; rfl
        rw [ef]
        generalize eH5 : upd H4 x (.ins CF dx (flds f.s f.t f.p)) = H5
        have hx5 : H5 x = some (.ins CF dx (flds f.s f.t f.p)) := by rw [← eH5]; exact upd_same
        have k5 : ∀ b o, b ≠ x → H b = some o → H5 b = some o := fun b o hb e => by
          rw [← eH5, upd_ne hb]
          exact s4 _ _ (by rw [upd_ne hb]; exact s3 _ _ e)
        refine w_fldI hx5 T.l_Float T.n_top (flds_t _ _ _) ?_
        repeat walk_at "rd"
        refine w_tup2 fun a6 H6 s6 n6 h6 => ?_
        have hx6 := s6 _ _ hx5
        have k6 : ∀ b o, b ≠ x → H b = some o → H6 b = some o := fun b o hb e => s6 _ _ (k5 b o hb e)
        rcases a with ⟨t, rfl, h0, _, hf, rfl⟩ | ⟨rfl, rfl, _, rfl⟩ | ⟨rfl, rfl, rfl, rfl⟩
        · refine w_nin h6 rfl rfl ?_
          repeat walk_at "rd"
          refine iT ?_
          repeat walk_at "rd"
          refine w_fldI hx6 T.l_Float T.n_top (flds_t _ _ _) ?_
          repeat walk_at "rd"
          refine w_fldI hx6 T.l_Float T.n_power (flds_p _ _ _) ?_
          repeat walk_at "rd"
          refine u_fits ?_
          repeat walk_at "rd"
          show if (!fitsB (red t p).1 (red t p).2) = true then _ else _
          rw [hf]
          refine iF ?_
          repeat walk_at "rd"
          exact q H6 k6 hx6
        all_goals
          refine w_nin h6 rfl rfl ?_
          repeat walk_at "rd"
          refine iF ?_
          refine iF ?_
          repeat walk_at "rd"
          exact q H6 k6 hx6
theorem u_FloatX {sv tv wv : L2.V} {part : Str} {H : Hp} {Q : VK} {E : XK} (a : BadA H sv tv wv part) (q : ∀ d H', Same H H' → H' d = some (.xd (parFs (.str part))) → E (.ref CE) (some d) H') : MakeK CF (spInitX CF CE) [sv, tv, wv] H Q E := by
  intro x dx hx hdx ne
  have s1 : Same H (upd (upd H dx (.own x)) x (.ins CF dx [])) := fun b o e => by
    rw [upd_ne (ne_of_none e hx), upd_ne (ne_of_none e hdx)]
    exact e
  refine ⟨x, dx, sv, tv, wv, rfl, upd_same, .inl ⟨part, a.same s1, fun d H' o e => q d H' (fun b u z => o _ _ (ne_of_none z hx) (s1 _ _ z)) e⟩⟩
theorem u_FloatY {s p : Int} {tv : L2.V} {f : Fl} {H : Hp} {Q : VK} {E : XK} (a : Arg s tv p f) (q : ∀ x H', Same H H' → H x = none → FlAt CF H' x f → Q (.ref x) H') : MakeK CF (spInitX CF CE) [.int s, tv, .int p] H Q E := by
  intro x dx hx hdx ne
  refine ⟨x, dx, .int s, tv, .int p, rfl, upd_same, .inr ⟨s, p, f, rfl, rfl, a, fun H' k hx' => ⟨rfl, q x H' (fun b o e => k b o (ne_of_none e hx) ?_) hx ⟨dx, hx'⟩⟩⟩⟩
  rw [upd_ne (ne_of_none e hx), upd_ne (ne_of_none e hdx)]
  exact e
/-! ### what is said -/
def spSaid (CF : Addr) : Sp := fun vs H Q _ => ∃ sv tv wv, vs = [sv, tv, wv] ∧ ((∃ part, BadA H sv tv wv part ∧ ∀ H', Same H H' → Q (.str part) H') ∨ (∃ s p f, sv = .int s ∧ wv = .int p ∧ Arg s tv p f ∧ NewF CF f H Q))
theorem sc_law_said : FnScope ["sign", "top", "power", "e"] ["sign", "top", "power"] (defScope s_law_said) := ⟨rfl, rfl, rfl, by decide +kernel, rfl, by decide +kernel, by decide +kernel⟩
theorem ok_said (T : AllP K mg CF CE CL) (k_Float_initX : KnC P w K mg base (L2.CX P w) 3 "Float" CF ["self", "sign", "top", "power"] (spInitX CF CE)) : Kn P w K mg base CX0 5 "_law_said" ["sign", "top", "power"] (spSaid CF) := by
  refine T.x_said.kn fun f fd F => ?_
  refine F.ok sc_law_said (fun vs H Q E h => ?_) (fun cdv A outer s H vs Q E hr h => ?_)
  · obtain ⟨a, b, c, rfl, _⟩ := h
    rfl
  · obtain ⟨a, b, c, rfl, cs⟩ := h
    refine ⟨_, (pss_one (ps_try_as (i := 3) rfl rfl sc_law_said.nd rfl rfl ⟨rfl, by decide, Or.inl T.g_LuaError⟩ takes0 (fun W pn xe tk _ => (pss_one (ps_ret (pkCX k_Float_initX hr tk (pa_cons (pv 0) (pa_cons (pv 1) (pa_cons (pv 2) pa_nil))))))) (fun a oe cls d pn hz hf => (pss_one (ps_ret (pe_ifExp (pt_val (pe_callB (call_isX T.xc_InvalidArgument hz hf) (by rfl) T.b_isinstance boot_isinstance (pa_cons (pv 3) (pa_cons (pg "InvalidArgument" T.g_InvalidArgument (rref _)) pa_nil)))) (pe_xf T.xf_InvalidArgument T.xn_part hz hf (pv 3)) pe_str)))))), ?_⟩
    repeat walk_at "rd"
    refine w_makeS ?_
    repeat walk_at "rd"
    rcases cs with ⟨part, hb, q⟩ | ⟨s, p, f, rfl, rfl, a, q⟩
    · refine u_FloatX hb fun d H1 s1 e1 => ⟨true, T.e_LuaError, fun _ a0 ha0 => ?_, fun z => nomatch z⟩
      repeat walk_at "rd"
      refine ⟨.ref CE, .ref CE, true, d, _, rfl, fun u h => h, rfl, rfl, e1, T.e_self, ?_⟩
      repeat walk_at "rd"
      refine w_xf ?_
      repeat walk_at "rd"
      refine w_xfI e1 (par_part _) ?_
      repeat walk_at "rd"
      exact q H1 s1
    · exact u_FloatY a fun x H' s1 n1 h1 => q x H' s1 n1 h1
end
end Nu

set_option Elab.async false
set_option linter.all false
set_option maxRecDepth 100000
set_option autoImplicit false
set_option maxHeartbeats 4000000
namespace Nu
open PySem PySem.Spec PyProof.Rows L2 Rd
local macro_rules | `(tactic| walk_at "hp") => `(tactic| first | assumption | (refine same_get ?sm ?_; (case sm => assumption); walk_at "hp"))
local macro_rules | `(tactic| walk_at "rd") => `(tactic| first
  | with_reducible refine w_nx ?_
  | with_reducible refine w_rt ?_
  | with_reducible refine w_bk ?_
  | with_reducible refine w_ct ?_
  | with_reducible refine w_seq ?_
  | with_reducible refine w_next ?_
  | with_reducible refine w_ret ?_
  | with_reducible refine w_ifS ?_
  | with_reducible refine w_asg ?_
  | with_reducible refine w_name ?_
  | with_reducible refine w_par ?_
  | with_reducible refine w_parI ?_
  | with_reducible refine w_ii ?_
  | with_reducible refine w_i1 ?_
  | with_reducible refine w_drop ?_
  | with_reducible refine w_sFld ?_
  | ((with_reducible refine' w_var ?rdh ?_); (case rdh => exact rfl))
  | with_reducible refine w_c ?_
  | with_reducible refine w_op ?_
  | with_reducible refine w_un ?_
  | with_reducible refine w_I0 ?_
  | with_reducible refine w_U ?_
  | with_reducible refine w_bits ?_
  | with_reducible refine w_bitsI ?_
  | with_reducible refine w_tup ?_
  | with_reducible refine w_lst ?_
  | with_reducible refine w_nil ?_
  | with_reducible refine w_cons ?_
  | with_reducible refine w_fld ?_
  | with_reducible refine w_call ?_
  | with_reducible refine w_make ?_
  | with_reducible refine w_gsub ?_
  | with_reducible refine w_int1 ?_
  | with_reducible refine w_intB ?_
  | with_reducible refine w_for ?_
  | with_reducible refine w_rng1 ?_
  | with_reducible refine w_iList ?_
  | with_reducible refine w_iTup ?_
  | with_reducible refine w_makeD ?_
  | with_reducible refine w_nn ?_
  | with_reducible refine w_subB ?_
  | with_reducible refine w_meth ?_
  | with_reducible refine w_cb ?_
  | with_reducible refine w_test ?_
  | with_reducible refine w_B ?_
  | with_reducible refine w_bl ?_
  | with_reducible refine w_andV ?_
  | with_reducible refine w_orV ?_
  | with_reducible refine w_notV ?_
  | with_reducible refine w_and ?_
  | with_reducible refine w_or ?_
  | with_reducible refine w_not ?_
  | with_reducible refine w_if ?_
  | with_reducible refine w_gnil ?_
  | with_reducible refine w_gcons ?_
  | with_reducible refine iT ?_
  | with_reducible refine iF ?_
  | with_reducible refine w_eqI ?_
  | with_reducible refine w_neI ?_
  | with_reducible refine w_eqS ?_
  | with_reducible refine w_eqIS ?_
  | with_reducible refine w_eqSI ?_)

section
variable {P : Program} {w : World} {K : PySem.W.Frag} {mg : Str → Option Value} {base : Heap} {CF CE CL : Addr}
/-! ### the same number with an odd top -/
def spOdd : Sp := fun vs H Q _ => ∃ t p, vs = [.int t, .int p] ∧ 0 ≤ t ∧ bits t ≤ 3000 ∧ ∀ q H', Same H H' → H' q = some (.tup [.int (red t p).1, .int (red t p).2]) → Q (.ref q) H'
theorem sc_law_odd : FnScope ["top", "power"] ["top", "power"] (defScope s_law_odd) := ⟨rfl, rfl, rfl, by decide +kernel, rfl, by decide +kernel, by decide +kernel⟩
theorem ok_odd (T : AllP K mg CF CE CL) : Kn P w K mg base CX0 1 "_law_odd" ["top", "power"] spOdd := by
  refine T.x_odd.kn fun f fd F => ?_
  refine F.ok sc_law_odd (fun vs H Q E h => ?_) (fun cdv A outer s H vs Q E hr h => ?_)
  · obtain ⟨t, p, rfl, _⟩ := h
    rfl
  · obtain ⟨t, p, rfl, h0, hb, q⟩ := h
    refine ⟨_, (pss_cons (ps_if (pt_cmpR op_eq (pv 0) pe_int (nomark _)) (pss_one (ps_ret (pe_tup (pa_cons pe_int (pa_cons pe_int pa_nil))))) pss_nil)
      (pss_cons (ps_while PassesOwn.never (pt_cmpR op_eq (pe_op op_mod (pe_callTy call_int1 (by rfl) T.b_int boot_int (pa_cons (pv 0) pa_nil)) pe_int) pe_int (nomark _))
      (pss_one (ps_par (by rfl) sc_law_odd.nd (i := 0) (j := 1) rfl rfl (by decide) rfl rfl (pa_cons (pe_op op_fdivW (pv 0) pe_int) (pa_cons (pe_op op_add (pv 1) pe_int) pa_nil)) (by rfl))))
      (pss_one (ps_ret (pe_tup (pa_cons (pv 0) (pa_cons (pv 1) pa_nil))))))), ?_⟩
    repeat walk_at "rd"
    refine iD (fun z => ?_) (fun z => ?_)
    · repeat walk_at "rd"
      subst z
      rw [red_zero] at q
      exact w_tup2 fun a1 H1 s1 n1 e1 => q a1 H1 s1 e1
    · repeat walk_at "rd"
      refine w_while (fun m σ' H' => H' = H ∧ ∃ t' p' : Int, σ' = [some (.int t'), some (.int p')] ∧ 0 < t' ∧ red t' p' = red t p ∧ m = t'.toNat) ⟨rfl, t, p, rfl, by omega, rfl, rfl⟩ ?_
      rintro m σ' H' ⟨rfl, t', p', rfl, tp, e, rfl⟩
      repeat walk_at "rd"
      refine w_I (by decide) ?_
      repeat walk_at "rd"
      refine iD (fun c => ?_) (fun c => ?_)
      · refine w_turn ?_
        repeat walk_at "rd"
        refine w_I (cdivw (by decide) (by decide)) ?_
        repeat walk_at "rd"
        exact ⟨(t' / 2).toNat, by omega, rfl, t' / 2, p' + 1, rfl, by omega, by rw [← e]; exact red_half tp c p', rfl⟩
      · repeat walk_at "rd"
        have e2 := red_odd tp (by omega) p'
        rw [e2] at e
        rw [← e] at q
        exact w_tup2 fun a1 H1 s1 n1 e1 => q a1 H1 s1 e1
def spIsF : Sp := fun vs H Q _ => ∃ t p, vs = [.int t, .int p] ∧ Q (.bl (isF t p)) H
theorem sc_law_is_float : FnScope ["top", "power", "bits"] ["top", "power"] (defScope s_law_is_float) := ⟨rfl, rfl, rfl, by decide +kernel, rfl, by decide +kernel, by decide +kernel⟩
theorem ok_isf (T : AllP K mg CF CE CL) : Kn P w K mg base CX0 1 "_law_is_float" ["top", "power"] spIsF := by
  refine T.x_isf.kn fun f fd F => ?_
  refine F.ok sc_law_is_float (fun vs H Q E h => ?_) (fun cdv A outer s H vs Q E hr h => ?_)
  · obtain ⟨t, p, rfl, _⟩ := h
    rfl
  · obtain ⟨t, p, rfl, q⟩ := h
    refine ⟨_, (pss_cons (ps_set (i := 2) sc_law_is_float.nd rfl (Or.inl rfl) (pe_bits (pv 0)))
      (pss_one (ps_ret (pe_or (pe_cmpR op_eq (pv 0) pe_int (nomark _)) (pe_one (pe_and (pe_cmpR op_ge (pv 1) (pe_un un_neg pe_int) (nomark _)) (pe_and (pe_cmpR op_le (pv 2) pe_int (nomark _)) (pe_one (pe_cmpR op_le (pe_op op_add (pv 2) (pv 1)) pe_int (nomark _)))))))))), ?_⟩
    unfold isF at q
    repeat walk_at "rd"
    refine iD (fun c1 => ?_) (fun c1 => ?_)
    · rw [decide_eq_true c1, Bool.true_or] at q
      repeat walk_at "rd"
      exact q
    · rw [decide_eq_false c1, Bool.false_or] at q
      repeat walk_at "rd"
      refine iD (fun c2 => ?_) (fun c2 => ?_)
      · rw [decide_eq_true c2, Bool.true_and] at q
        repeat walk_at "rd"
        refine iD (fun c3 => ?_) (fun c3 => ?_)
        · rw [decide_eq_true (show bits t ≤ 53 from c3), Bool.true_and] at q
          repeat walk_at "rd"
          exact q
        · rw [decide_eq_false (show ¬ bits t ≤ 53 from c3), Bool.false_and] at q
          repeat walk_at "rd"
          exact q
      · rw [decide_eq_false c2, Bool.false_and] at q
        repeat walk_at "rd"
        exact q
/-! ### is_number, whole_of -/
def spNumber (K : PySem.W.Frag) (CF : Addr) : Sp := fun vs H Q _ => ∃ x pl bo st fl, vs = [x] ∧ Says K CF H x pl bo st fl ∧ Q (.bl (fl || ((pl || bo) && !bo))) H
theorem sc_is_number : FnScope ["thing"] ["thing"] (defScope s_is_number) := ⟨rfl, rfl, rfl, by decide +kernel, rfl, by decide +kernel, by decide +kernel⟩
theorem ok_is_number (T : AllP K mg CF CE CL) (k_is_plain : Kn P w K mg base CX0 1 "is_plain" ["number"] (spPlain K CF)) : Kn P w K mg base CX0 2 "is_number" ["thing"] (spNumber K CF) := by
  refine T.x_is_number.kn fun f fd F => ?_
  refine F.ok sc_is_number (fun vs H Q E h => ?_) (fun cdv A outer s H vs Q E hr h => ?_)
  · obtain ⟨x, pl, bo, st, fl, rfl, _⟩ := h
    rfl
  · obtain ⟨x, pl, bo, st, fl, rfl, sy, q⟩ := h
    obtain ⟨t, ty, i1, i2, i3, i4⟩ := id sy
    refine ⟨_, (pss_one (ps_ret (pe_or (pe_callB call_isi (by rfl) T.b_isinstance boot_isinstance (pa_cons (pv 0) (pa_cons (pg "Float" T.g_Float (rref _)) pa_nil))) (pe_one (pk k_is_plain hr (pa_cons (pv 0) pa_nil)))))), ?_⟩
    repeat walk_at "rd"
    refine w_isi (.own CF) ty i4 ?_
    repeat walk_at "rd"
    refine iB (fun e => ?_) (fun e => ?_)
    · rw [e] at q
      repeat walk_at "rd"
      exact q
    · rw [e] at q
      repeat walk_at "rd"
      exact ⟨x, pl, bo, st, fl, rfl, sy, q⟩
theorem u_num_fl (T : AllP K mg CF CE CL) {a : Addr} {f : Fl} {H : Hp} {Q : VK} {E : XK} (h : FlAt CF H a f) (q : Q (.bl true) H) : spNumber K CF ([.ref a] ++ []) H Q E := by
  obtain ⟨dx, e⟩ := h
  exact ⟨_, _, _, _, _, rfl, says_fl T.toAll e, q⟩
theorem u_num_np (T : AllP K mg CF CE CL) {v : L2.V} {H : Hp} {Q : VK} {E : XK} (h : NP H v) (q : Q (.bl false) H) : spNumber K CF ([v] ++ []) H Q E := by
  obtain ⟨bo, st, s, _⟩ := h.says T
  refine ⟨v, false, bo, st, false, rfl, s, ?_⟩
  cases bo <;> exact q
/-- an infinity, or nan, is no int -/
def spWholeN (CF : Addr) : Sp := fun vs H Q _ => ∃ a f, vs = [.ref a] ∧ FlAt CF H a f ∧ ((∃ s, f = .inf s) ∨ f = .nan) ∧ Q .non H
theorem sc_whole_of : FnScope ["number", "whole"] ["number"] (defScope s_whole_of) := ⟨rfl, rfl, rfl, by decide +kernel, rfl, by decide +kernel, by decide +kernel⟩
theorem ok_whole_of (T : AllP K mg CF CE CL) (k_Float_is_finite : KnM P w K mg base CX0 1 CF "is_finite" ["self"] (spFinite CF)) (k_Float_ratio : KnM P w K mg base CX0 1 CF "ratio" ["self"] (spRatio CF)) : Kn P w K mg base CX0 2 "whole_of" ["number"] (spWholeN CF) := by
  refine T.x_whole_of.kn fun f fd F => ?_
  refine F.ok sc_whole_of (fun vs H Q E h => ?_) (fun cdv A outer s H vs Q E hr h => ?_)
  · obtain ⟨a, f, rfl, _⟩ := h
    rfl
  · obtain ⟨a, f, rfl, hf, c, q⟩ := h
    refine ⟨_, (pss_cons (ps_if (pt_not (pt_val (pe_callB call_isi (by rfl) T.b_isinstance boot_isinstance (pa_cons (pv 0) (pa_cons (pg "Float" T.g_Float (rref _)) pa_nil))))) (pss_one (ps_ret (pv 0))) pss_nil)
      (pss_cons (ps_if (PW.pt (pw_or (pt_not (pt_val (pkM0 k_Float_is_finite T.l_Float hr (pv 0) rfl))) (pw_or (pt_cmpR op_lt (pe_fld (pv 0) rfl) pe_int (nomark _)) (pw_or1 (pt_cmpR op_gt (pe_op op_add (pe_bits (pe_fld (pv 0) rfl)) (pe_fld (pv 0) rfl)) pe_int (nomark _)))))) (pss_one (ps_ret pe_non)) pss_nil)
      (pss_cons (ps_set (i := 1) sc_whole_of.nd rfl (Or.inl rfl) (pe_ix ix_tup (pkM0 k_Float_ratio T.l_Float hr (pv 0) rfl) pe_int (fun _ _ => rfl)))
      (pss_one (ps_ret (pe_ifExp (pt_chain op_le op_le (pgE "LEAST" T.c_LEAST) (pv 1) (pgE "MOST" T.c_MOST)) (pv 1) pe_non)))))), ?_⟩
    obtain ⟨dx, h1⟩ := id hf
    obtain ⟨t, ty, i1, i2, i3, i4⟩ := says_fl T.toAll h1
    repeat walk_at "rd"
    refine w_isi (.own CF) ty i4 ?_
    repeat walk_at "rd"
    refine iF ?_
    repeat walk_at "rd"
    refine w_methI h1 (lk_fin _ _ _) ?_
    repeat walk_at "rd"
    refine ⟨a, f, rfl, hf, ?_⟩
    have hn : f.isFin = false := by rcases c with ⟨s, rfl⟩ | rfl <;> rfl
    rw [hn]
    repeat walk_at "rd"
    refine iT ?_
    repeat walk_at "rd"
    exact q
end
end Nu

set_option Elab.async false
set_option linter.all false
set_option maxRecDepth 100000
set_option autoImplicit false
set_option maxHeartbeats 4000000
namespace Nu
open PySem PySem.Spec PyProof.Rows L2 Rd
local macro_rules | `(tactic| walk_at "hp") => `(tactic| first | assumption | (refine same_get ?sm ?_; (case sm => assumption); walk_at "hp"))
local macro_rules | `(tactic| walk_at "rd") => `(tactic| first
  | with_reducible refine w_nx ?_
  | with_reducible refine w_rt ?_
  | with_reducible refine w_bk ?_
  | with_reducible refine w_ct ?_
  | with_reducible refine w_seq ?_
  | with_reducible refine w_next ?_
  | with_reducible refine w_ret ?_
  | with_reducible refine w_ifS ?_
  | with_reducible refine w_asg ?_
  | with_reducible refine w_name ?_
  | with_reducible refine w_par ?_
  | with_reducible refine w_parI ?_
  | with_reducible refine w_ii ?_
  | with_reducible refine w_i1 ?_
  | with_reducible refine w_drop ?_
  | with_reducible refine w_sFld ?_
  | ((with_reducible refine' w_var ?rdh ?_); (case rdh => exact rfl))
  | with_reducible refine w_c ?_
  | with_reducible refine w_op ?_
  | with_reducible refine w_un ?_
  | with_reducible refine w_I0 ?_
  | with_reducible refine w_U ?_
  | with_reducible refine w_bits ?_
  | with_reducible refine w_bitsI ?_
  | with_reducible refine w_tup ?_
  | with_reducible refine w_lst ?_
  | with_reducible refine w_nil ?_
  | with_reducible refine w_cons ?_
  | with_reducible refine w_fld ?_
  | with_reducible refine w_call ?_
  | with_reducible refine w_make ?_
  | with_reducible refine w_gsub ?_
  | with_reducible refine w_int1 ?_
  | with_reducible refine w_intB ?_
  | with_reducible refine w_for ?_
  | with_reducible refine w_rng1 ?_
  | with_reducible refine w_iList ?_
  | with_reducible refine w_iTup ?_
  | with_reducible refine w_makeD ?_
  | with_reducible refine w_nn ?_
  | with_reducible refine w_subB ?_
  | with_reducible refine w_meth ?_
  | with_reducible refine w_cb ?_
  | with_reducible refine w_test ?_
  | with_reducible refine w_B ?_
  | with_reducible refine w_bl ?_
  | with_reducible refine w_andV ?_
  | with_reducible refine w_orV ?_
  | with_reducible refine w_notV ?_
  | with_reducible refine w_and ?_
  | with_reducible refine w_or ?_
  | with_reducible refine w_not ?_
  | with_reducible refine w_if ?_
  | with_reducible refine w_gnil ?_
  | with_reducible refine w_gcons ?_
  | with_reducible refine iT ?_
  | with_reducible refine iF ?_
  | with_reducible refine w_eqI ?_
  | with_reducible refine w_neI ?_
  | with_reducible refine w_eqS ?_
  | with_reducible refine w_eqIS ?_
  | with_reducible refine w_eqSI ?_)

theorem w_lc {wi : TI} {g : TG} {tt : TT} {te : TE} {vs : List Nat} {σ : L2.St} {H : Hp} {Q : VK} (h : wi σ H fun J H1 => ∀ D, H1 D = none → ∃ W : Nat → Nat → Hp → Prop, (∃ m, W 0 m (upd H1 D (.lst []))) ∧ ∀ i m H, W i m H →
  (J.stop i H ∧ Q (.ref D) H) ∨ (J.go i H ∧ ∃ Nx : Hp → Prop, (∀ H', Nx H' → ∃ m', m' < m ∧ W (i + 1) m' H') ∧ ∀ x H', J.yld i H x H' → g x (wipe σ vs) H' fun σ2 H2 => wipe σ2 vs = wipe σ vs ∧ tt σ2 H2 fun b H3 =>
    if b = true then te σ2 H3 fun y H4 => ∃ acc, H4 D = some (.lst acc) ∧ acc.length < sizeLine ∧ Nx (upd H4 D (.lst (acc ++ [y]))) else Nx H3)) : tLc wi g tt te vs σ H Q := h
theorem same_put {H H' : Hp} {D : Addr} {o : HO} (s : Same H H') (n : H D = none) : Same H (upd H' D o) := fun b u e => by
  rw [upd_ne (ne_of_none e n)]
  exact s b u e
theorem w_yes {σ : L2.St} {H : Hp} {Q : Bool → Hp → Prop} (q : Q true H) : tYes σ H Q := q
theorem w_catT {K : PySem.W.Frag} {H : Hp} {Q : VK} {a b : Addr} {xs ys : List V} (h : H a = some (.tup xs)) (h' : H b = some (.tup ys)) (hx : xs ≠ []) (hy : ys ≠ []) (hl : xs.length + ys.length ≤ 1000) (q : ∀ p H', Same H H' → H p = none → H' p = some (.tup (xs ++ ys)) → Q (.ref p) H') : rCatT K (.ref a) (.ref b) H Q :=
  ⟨a, b, xs, ys, rfl, rfl, SqT.of h, SqT.of h', hx, Nat.le_trans hl (by decide), fun e => absurd e hy, fun _ p hp => q p _ (same_upd hp) hp upd_same⟩
/-! ### three ints as data -/
def d3 (s t p : Int) : PyData := .tuple [.int s, .int t, .int p]
theorem d3_dp {K : PySem.W.Frag} {H : Hp} {a : Addr} {s t p : Int} (h : H a = some (.tup [.int s, .int t, .int p])) : Dp K H (.ref a) (d3 s t p) := .tup (SqT.of h) (.cons (.int _) (.cons (.int _) (.cons (.int _) .nil)))
theorem d3_lay (s t p : Int) : PyData.canLay0 (d3 s t p) = true := by simp [d3, PyData.canLay0, PyData.canLayAll0]
theorem d3_shaped (s t p : Int) : SeqAt.shaped (d3 s t p) = true := by
  unfold SeqAt.shaped
  rw [d3_lay]
  simp [d3, PyData.depth, PyData.depthAll]
theorem d3_eqv (s t p s' t' p' : Int) : PyData.eqv (d3 s t p) (d3 s' t' p') = (decide (s = s') && (decide (t = t') && decide (p = p'))) := by
  simp [d3, PyData.eqv, PyData.eqvAll, Bool.beq_eq_decide_eq]
theorem d32_shaped (s t p : Int) : SeqAt.shaped (.list [d3 s t p, d3 s t p]) = true := by
  have e : PyData.canLay0 (.list [d3 s t p, d3 s t p]) = true := by simp [PyData.canLay0, PyData.canLayAll0, d3_lay]
  unfold SeqAt.shaped
  rw [e]
  simp [d3, PyData.depth, PyData.depthAll]
theorem d32_eqv (s t p : Int) : PyData.eqv (.list [d3 s t p, d3 s t p]) (.list [d3 s t p, d3 s t p]) = true := by
  simp [PyData.eqv, PyData.eqvAll, d3_eqv]
theorem feq_d3 (s t p s' t' p' : Int) : feq (.fin s t p) (.fin s' t' p') = (decide (s = s') && (decide (t = t') && decide (p = p'))) := d3_eqv s t p s' t' p'
theorem feq_inf (s t p r : Int) : feq (.fin s t p) (.inf r) = false := by
  simp [feq, fall, fdat, Fl.s, Fl.t, Fl.p, PyData.eqv, PyData.eqvAll]
section
variable {P : Program} {w : World} {K : PySem.W.Frag} {mg : Str → Option Value} {base : Heap} {CF CE CL : Addr}
theorem u_odd {t p : Int} {H : Hp} {Q : VK} {E : XK} (h0 : 0 ≤ t) (hb : bits t ≤ 3000) (q : ∀ a H', Same H H' → H' a = some (.tup [.int (red t p).1, .int (red t p).2]) → Q (.ref a) H') : spOdd ([V.int t, V.int p] ++ []) H Q E := ⟨t, p, rfl, h0, hb, q⟩
theorem u_isf {t p : Int} {H : Hp} {Q : VK} {E : XK} (q : Q (.bl (isF t p)) H) : spIsF ([V.int t, V.int p] ++ []) H Q E := ⟨t, p, rfl, q⟩
theorem u_neF {a b : Addr} {f g : Fl} {n : Bool → Bool} {H : Hp} {Q : VK} (ha : FlAt CF H a f) (hb : FlAt CF H b g) (q : ∀ H', Same H H' → Q (.bl (n (feq f g))) H') : rOwn CF n (spFEq CF) (.ref a) (.ref b) H Q := by
  obtain ⟨dx, h1⟩ := id ha
  obtain ⟨dy, h2⟩ := id hb
  exact w_own h1 h2 ⟨a, b, f, g, rfl, ha, hb, fun H' s => ⟨_, rfl, q H' s⟩⟩
def spMade : Sp := fun vs H Q _ => ∃ (p : Addr) (n : Nat), vs = [.ref p] ∧ Well n H p ∧ n < 700000 ∧ ∀ H', Oth p H H' → Well (n + 50) H' p → Q (.bl true) H'
theorem sc_law_made_right : FnScope ["well", "sign", "top", "power", "more", "due", "one", "other", "some", "odd", "last"] ["well"] (defScope s_law_made_right) := ⟨rfl, rfl, rfl, by decide +kernel, rfl, by decide +kernel, by decide +kernel⟩
theorem ok_made (T : AllP K mg CF CE CL) (k_law_draw : Kn P w K mg base CX0 1 "_law_draw" ["well", "many"] spDraw) (k_law_finite : Kn P w K mg base CX0 3 "_law_finite" ["well"] spFin) (k_law_odd : Kn P w K mg base CX0 1 "_law_odd" ["top", "power"] spOdd)
    (k_law_is_float : Kn P w K mg base CX0 1 "_law_is_float" ["top", "power"] spIsF) (k_Float_init : KnC P w K mg base CX0 2 "Float" CF ["self", "sign", "top", "power"] (spInit CF)) (k_Float_eq : KnM P w K mg base CX0 1 CF "__eq__" ["self", "other"] (spFEq CF))
    (k_Float_eqNi : KnNi P w K mg base 1 CF) (k_to_float : Kn P w K mg base CX0 6 "to_float" ["number"] (spToF K CF)) (k_is_number : Kn P w K mg base CX0 2 "is_number" ["thing"] (spNumber K CF)) :
    Kn P w K mg base CX0 8 "_law_made_right" ["well"] spMade := by
  refine T.x_made.kn fun f fd F => ?_
  refine F.ok sc_law_made_right (fun vs H Q E h => ?_) (fun cdv A outer s H vs Q E hr h => ?_)
  · obtain ⟨p, n, rfl, _⟩ := h
    rfl
  · obtain ⟨p, n, rfl, hw, hn, q⟩ := h
    refine ⟨_, (pss_cons (ps_asg (pk k_law_finite hr (pa_cons (pv 0) pa_nil)) (pg_tup (by rfl) (pgs_cons (pg_name (i := 1) sc_law_made_right.nd rfl (Or.inl rfl)) (pgs_cons (pg_name (i := 2) sc_law_made_right.nd rfl (Or.inl rfl)) (pgs_cons (pg_name (i := 3) sc_law_made_right.nd rfl (Or.inl rfl)) pgs_nil)))))
      (pss_cons (ps_set (i := 4) sc_law_made_right.nd rfl (Or.inl rfl) (pk k_law_draw hr (pa_cons (pv 0) (pa_cons pe_int pa_nil))))
      (pss_cons (ps_set (i := 5) sc_law_made_right.nd rfl (Or.inl rfl) (pe_op op_catT (pe_tup (pa_cons (pv 1) pa_nil)) (pk k_law_odd hr (pa_cons (pv 2) (pa_cons (pv 3) pa_nil)))))
      (pss_cons (ps_par (by rfl) sc_law_made_right.nd (i := 6) (j := 7) rfl rfl (by decide) rfl rfl (pa_cons (pkC k_Float_init hr (pa_cons (pv 1) (pa_cons (pv 2) (pa_cons (pv 3) pa_nil)))) (pa_cons (pkC k_Float_init hr (pa_cons (pv 1) (pa_cons (pe_op op_shlW (pv 2) (pv 4)) (pa_cons (pe_op op_sub (pv 3) (pv 4)) pa_nil)))) pa_nil)) (by rfl))
      (pss_cons (ps_if (pt_cmpR (op_neD hr.units) (pe_lc (own := [("some", 8)]) (g := (gName 8)) (tt := tYes) rfl sc_law_made_right.nd (pi_list (pe_lst (pa_cons (pv 6) (pa_cons (pv 7) pa_nil)))) (blkOk_by (N := ["well", "sign", "top", "power", "more", "due", "one", "other", "some", "odd", "last"]) (sc := defScope s_law_made_right) (by decide +kernel)) (fun _ _ _ _ _ => (pg_name (i := 8) sc_law_made_right.nd rfl (Or.inl rfl))) (fun _ _ _ _ _ => pts_nil) (fun _ _ _ _ _ => (pe_tup (pa_cons (pe_fldK (K := K) (pv 8) rfl) (pa_cons (pe_fldK (K := K) (pv 8) rfl) (pa_cons (pe_fldK (K := K) (pv 8) rfl) pa_nil)))))) (pe_lst (pa_cons (pv 5) (pa_cons (pv 5) pa_nil))) (nomark _)) (pss_one (ps_ret pe_bl)) pss_nil)
      (pss_cons (ps_if (PW.pt (pw_or (pt_cmpR (op_neOwn k_Float_eq T.q_Float hr) (pv 6) (pv 7) (nomark _)) (pw_or (pt_not (pt_cmpR (op_eqOwn k_Float_eq hr) (pv 6) (pv 7) (nomark _))) (pw_or1 (pt_cmpR (op_neOwn k_Float_eq T.q_Float hr) (pk k_to_float hr (pa_cons (pv 6) pa_nil)) (pv 6) (nomark _)))))) (pss_one (ps_ret pe_bl)) pss_nil)
      (pss_cons (ps_if (pt_cmpR (op_eqOwn k_Float_eq hr) (pv 6) (pkC k_Float_init hr (pa_cons (pe_op op_sub pe_int (pv 1)) (pa_cons (pv 2) (pa_cons (pv 3) pa_nil)))) (nomark _)) (pss_one (ps_ret pe_bl)) pss_nil)
      (pss_cons (ps_for PassesOwn.never rfl (pi_list (pe_lst (pa_cons (pv 5) (pa_cons (pv 2) (pa_cons pe_non (pa_cons pe_str (pa_cons (pe_lst (pa_cons (pv 6) pa_nil)) (pa_cons (pkC k_Float_init hr (pa_cons (pv 1) (pa_cons pe_str (pa_cons pe_int pa_nil)))) pa_nil)))))))) (pg_name (i := 9) sc_law_made_right.nd rfl (Or.inl rfl))
      (pss_one (ps_if (PW.pt (pw_or (pt_cmpR (OpR.orR (op_eqOwn k_Float_eq hr) (op_eqNi k_Float_eqNi T.ns_Float hr)) (pv 6) (pv 9) (nomark _)) (pw_or1 (pt_not (pt_cmpR (OpR.orR (op_neOwn k_Float_eq T.q_Float hr) (op_neNi k_Float_eqNi T.q_Float T.ns_Float hr)) (pv 6) (pv 9) (nomark _)))))) (pss_one (ps_ret pe_bl)) pss_nil)))
      (pss_cons (ps_set (i := 10) sc_law_made_right.nd rfl (Or.inl rfl) (pk k_law_odd hr (pa_cons (pe_op op_add (pv 2) pe_int) (pa_cons (pv 3) pa_nil))))
      (pss_cons (ps_if (PW.pt (pw_and (pt_val (pk k_law_is_float hr (pa_cons (pe_ix ix_tup (pv 10) pe_int (fun _ _ => rfl)) (pa_cons (pe_ix ix_tup (pv 10) pe_int (fun _ _ => rfl)) pa_nil)))) (pw_and1 (pt_cmpR (op_eqOwn k_Float_eq hr) (pkC k_Float_init hr (pa_cons (pv 1) (pa_cons (pe_op op_add (pv 2) pe_int) (pa_cons (pv 3) pa_nil)))) (pv 6) (nomark _))))) (pss_one (ps_ret pe_bl)) pss_nil)
      (pss_one (ps_ret (pk k_is_number hr (pa_cons (pv 6) pa_nil)))))))))))))), ?_⟩
    repeat walk_at "rd"
    refine u_fin hw (by omega) fun a2 H2 s t pw o2 w2 h2 fa => ?_
    obtain ⟨hs, t0, t1, p0, p1⟩ := id fa
    have bt : bits t ≤ 53 := bits_small t0 (k := 53) (by rw [show (2 : Int) ^ 53 = 9007199254740992 by decide]; exact t1)
    refine w_gtup h2 rfl ?_
    repeat walk_at "rd"
    refine u_draw w2 (by omega) (by decide) (by decide) fun more H3 o3 w3 m0 m1 => ?_
    have o3 := o2.trans o3
    repeat walk_at "rd"
    refine w_tup1 fun a4 H4 s4 n4 h4 => ?_
    repeat walk_at "rd"
    refine u_odd t0 (by omega) fun a5 H5 s5 h5 => ?_
    refine w_catT (s5 _ _ h4) h5 (by simp) (by simp) (by show 3 ≤ 1000; decide) fun due H6 s6 n6 hdue => ?_
    have w6 := ((w3.same s4).same s5).same s6
    have o6 := ((o3.same s4).same s5).same s6
    generalize ea : (red t pw).1 = ra at *
    generalize eb : (red t pw).2 = rb at *
    have hdue : H6 due = some (.tup [.int s, .int ra, .int rb]) := hdue
    have ag1 := fa.arg
    rw [ea, eb] at ag1
    have ag2 : Arg s (.int (t * 2 ^ more.toNat)) (pw - more) (.fin s ra rb) := by
      have e := red_mul t0 pw more.toNat
      have em : ((more.toNat : Nat) : Int) = more := by omega
      rw [em] at e
      refine .inl ⟨_, rfl, Int.mul_nonneg t0 (Int.le_of_lt (pow_pos2 _)), hs, ?_, by rw [e, ea, eb]⟩
      rw [e]
      rcases fa.arg with ⟨_, e1, _, _, hf, _⟩ | ⟨e1, _⟩ | ⟨e1, _⟩
      · cases e1; exact hf
      · cases e1
      · cases e1
    repeat walk_at "rd"
    refine u_Float ag1 fun one H7 s7 n7 h7 => ?_
    repeat walk_at "rd"
    refine w_I (cshl (by omega) (by omega) (by omega)) ?_
    repeat walk_at "rd"
    refine u_Float ag2 fun other H8 s8 n8 h8 => ?_
    repeat walk_at "rd"
    have w8 := (w6.same s7).same s8
    have o8 := (o6.same s7).same s8
    have h7 := h7.same s8
    have hdue := s8 _ _ (s7 _ _ hdue)
    refine w_lc ?_
    repeat walk_at "rd"
    refine w_lst2 fun a9 H9 s9 n9 h9 => ?_
    refine w_iListI h9 fun D nD => ?_
    refine lc_list (xs := [.ref one, .ref other]) (fun i H' => Same H9 H' ∧ ∃ acc, H' D = some (.lst acc) ∧ acc.length = i ∧ ∀ y ∈ acc, ∃ b, y = .ref b ∧ H' b = some (.tup [.int s, .int ra, .int rb])) ⟨same_upd nD, _, upd_same, rfl, fun y hy => nomatch hy⟩ (fun i H' _ p => SqL.of (p.1 _ _ h9)) ?_ ?_
    · intro i x H' hi ⟨p1, acc, p2, p3, p4⟩
      have hi2 : i < 2 := (List.getElem?_eq_some_iff.mp hi).1
      have hx : ∃ b, x = .ref b ∧ FlAt CF H' b (.fin s ra rb) := by
        have := List.mem_of_getElem? hi
        simp only [List.mem_cons, List.not_mem_nil, or_false] at this
        rcases this with rfl | rfl
        · exact ⟨one, rfl, (h7.same s9).same p1⟩
        · exact ⟨other, rfl, (h8.same s9).same p1⟩
      obtain ⟨b, rfl, dx, hb⟩ := hx
      repeat walk_at "rd"
      refine ⟨rfl, ?_⟩
      refine w_yes ?_
      refine iT ?_
      repeat walk_at "rd"
      refine w_fldI hb T.l_Float T.n_sign (flds_s _ _ _) ?_
      repeat walk_at "rd"
      refine w_fldI hb T.l_Float T.n_top (flds_t _ _ _) ?_
      repeat walk_at "rd"
      refine w_fldI hb T.l_Float T.n_power (flds_p _ _ _) ?_
      repeat walk_at "rd"
      refine w_tup3 fun c H10 s10 n10 h10 => ?_
      refine ⟨acc, s10 _ _ p2, by rw [p3]; exact Nat.lt_of_lt_of_le hi2 (by decide), same_put (p1.trans s10) nD, _, upd_same, by rw [List.length_append, p3]; rfl, fun y hy => ?_⟩
      have nD2 : ∀ b xs, H10 b = some (.tup xs) → b ≠ D := fun b xs e z => by rw [z, s10 _ _ p2] at e; cases e
      rcases List.mem_append.1 hy with hy | hy
      · obtain ⟨b', rfl, e⟩ := p4 y hy
        exact ⟨b', rfl, by rw [upd_ne (nD2 _ _ (s10 _ _ e))]; exact s10 _ _ e⟩
      · simp only [List.mem_cons, List.not_mem_nil, or_false] at hy
        subst hy
        exact ⟨c, rfl, by rw [upd_ne (nD2 _ _ h10)]; exact h10⟩
    intro H10 ⟨s10, acc, p2, p3, p4⟩
    obtain ⟨y1, y2, rfl⟩ : ∃ y1 y2, acc = [y1, y2] := by
      match acc, p3 with
      | [a, b], _ => exact ⟨a, b, rfl⟩
    obtain ⟨c1, rfl, e1⟩ := p4 y1 (by simp)
    obtain ⟨c2, rfl, e2⟩ := p4 y2 (by simp)
    have s10 := s9.trans s10
    have w10 := w8.same s10
    have o10 := o8.same s10
    have h7 := h7.same s10
    have h8 := h8.same s10
    have hdue := s10 _ _ hdue
    repeat walk_at "rd"
    refine w_lst2 fun l11 H11 s11 n11 h11 => ?_
    have hd11 := s11 _ _ hdue
    refine ⟨_, _, .lst (SqL.of (s11 _ _ p2)) (.cons (d3_dp (s11 _ _ e1)) (.cons (d3_dp (s11 _ _ e2)) .nil)), .lst (SqL.of h11) (.cons (d3_dp hd11) (.cons (d3_dp hd11) .nil)), d32_shaped _ _ _, d32_shaped _ _ _, ?_⟩
    rw [d32_eqv]
    repeat walk_at "rd"
    refine iF ?_
    repeat walk_at "rd"
    have h7 := h7.same s11
    have h8 := h8.same s11
    refine u_eqF h7 h8 fun H12 s12 => ?_
    repeat walk_at "rd"
    refine iF ?_
    repeat walk_at "rd"
    have h7 := h7.same s12
    have h8 := h8.same s12
    refine u_eqF h7 h8 fun H13 s13 => ?_
    repeat walk_at "rd"
    refine iF ?_
    repeat walk_at "rd"
    have h7 := h7.same s13
    refine .inl ⟨one, _, rfl, h7, ?_⟩
    repeat walk_at "rd"
    refine u_eqF h7 h7 fun H14 s14 => ?_
    repeat walk_at "rd"
    refine iF ?_
    repeat walk_at "rd"
    have ns : ∃ s', 0 - s = s' ∧ (s' = 1 ∨ s' = -1) ∧ s ≠ s' := by rcases hs with rfl | rfl <;> exact ⟨_, rfl, by decide, by decide⟩
    obtain ⟨s', es, hs', ns⟩ := ns
    rw [es]
    have ag3 : Arg s' (.int t) pw (.fin s' ra rb) := by
      rw [← ea, ← eb]
      exact FinA.arg ⟨hs', t0, t1, p0, p1⟩
    have h7 := h7.same s14
    refine u_Float ag3 fun neg H15 s15 n15 h15 => ?_
    have h7 := h7.same s15
    refine u_neF h7 h15 fun H16 s16 => ?_
    rw [feq_d3, decide_eq_false ns]
    repeat walk_at "rd"
    refine iF ?_
    repeat walk_at "rd"
    have sA := ((((s11.trans s12).trans s13).trans s14).trans s15).trans s16
    have h7 := h7.same s16
    have hdue := sA _ _ hdue
    have w16 := w10.same sA
    have o16 := o10.same sA
    refine w_lst1 fun l17 H17 s17 n17 h17 => ?_
    repeat walk_at "rd"
    refine u_Float (.inr (.inl ⟨rfl, rfl, hs, rfl⟩)) fun inf H18 s18 n18 h18 => ?_
    repeat walk_at "rd"
    refine w_lstI (by show 6 ≤ 1000; decide) fun L H19 s19 n19 h19 => ?_
    refine w_iListI h19 ?_
    have s1619 := (s17.trans s18).trans s19
    have h7 := h7.same s1619
    have hxs : ∀ x ∈ [V.ref due, .int t, .non, .str "inf", .ref l17, .ref inf], OthV H19 x ∨ ∃ b, x = .ref b ∧ FlAt CF H19 b (.inf s) := by
      intro x hx
      simp only [List.mem_cons, List.not_mem_nil, or_false] at hx
      rcases hx with rfl | rfl | rfl | rfl | rfl | rfl
      · exact .inl (.tup (s1619 _ _ hdue))
      · exact .inl (.int t)
      · exact .inl .non
      · exact .inl (.str _)
      · exact .inl (.lst ((s18.trans s19) _ _ h17))
      · exact .inr ⟨inf, rfl, h18.same s19⟩
    generalize [V.ref due, .int t, .non, .str "inf", .ref l17, .ref inf] = xs at h19 hxs
    refine for_list (xs := xs) (fun _ σ H' => ∃ c, σ = [some (.ref p), some (.int s), some (.int t), some (.int pw), some (.int more), some (.ref due), some (.ref one), some (.ref other), none, c, none] ∧ Same H19 H') ⟨_, rfl, Same.refl _⟩ (fun i σ H' _ ⟨_, _, h⟩ => SqL.of (h _ _ h19)) ?_ ?_
    · rintro i x σ H20 hi ⟨c, rfl, s20⟩
      have hx := hxs x (List.mem_of_getElem? hi)
      have h7 := h7.same s20
      obtain ⟨dx, e7⟩ := id h7
      repeat walk_at "rd"
      rcases hx with hx | ⟨b, rfl, hb⟩
      · refine .inr ⟨one, dx, _, rfl, e7, hx.same s20, ?_⟩
        repeat walk_at "rd"
        refine .inr ⟨one, dx, _, rfl, e7, hx.same s20, ?_⟩
        repeat walk_at "rd"
        refine iF ?_
        repeat walk_at "rd"
        exact ⟨_, rfl, s20⟩
      · refine .inl (u_neF h7 (hb.same s20) fun H21 s21 => ?_)
        rw [feq_inf]
        repeat walk_at "rd"
        refine iF ?_
        repeat walk_at "rd"
        refine .inl (u_neF (h7.same s21) ((hb.same s20).same s21) fun H22 s22 => ?_)
        rw [feq_inf]
        repeat walk_at "rd"
        refine iF ?_
        repeat walk_at "rd"
        exact ⟨_, rfl, (s20.trans s21).trans s22⟩
    rintro σ H20 ⟨c, rfl, s20⟩
    have h7 := h7.same s20
    have w20 := (w16.same s1619).same s20
    have o20 := (o16.same s1619).same s20
    repeat walk_at "rd"
    have bt1 : bits (t + 1) ≤ 54 := bits_small (by omega) (k := 54) (by rw [show (2 : Int) ^ 54 = 18014398509481984 by decide]; omega)
    refine u_odd (by omega) (by omega) fun last H21 s21 h21 => ?_
    have h7 := h7.same s21
    have fin : ∀ H', Same H21 H' → spNumber K CF ([V.ref one] ++ []) H' Q E := fun H' s' => u_num_fl T (h7.same s') (q H' ((o20.same s21).same s') (((w20.mono (by omega)).same s21).same s'))
    repeat walk_at "rd"
    refine w_ixT h21 rfl ?_
    repeat walk_at "rd"
    refine w_ixT h21 rfl ?_
    repeat walk_at "rd"
    refine u_isf ?_
    repeat walk_at "rd"
    rw [isF_eq (red_nn (show 0 ≤ t + 1 by omega) pw)]
    refine iB (fun hf => ?_) (fun hf => ?_)
    · repeat walk_at "rd"
      refine u_Float (f := .fin s (red (t + 1) pw).1 (red (t + 1) pw).2) (.inl ⟨t + 1, rfl, by omega, hs, hf, rfl⟩) fun nx H22 s22 n22 h22 => ?_
      repeat walk_at "rd"
      refine u_neF h22 (h7.same s22) fun H23 s23 => ?_
      have nr : ¬ ((red (t + 1) pw).1 = ra ∧ (red (t + 1) pw).2 = rb) := fun ⟨z1, z2⟩ => by
        have := red_inj (t := t + 1) (u := t) (p := pw) (by omega) t0 (Prod.ext (z1.trans ea.symm) (z2.trans eb.symm))
        omega
      have fe : feq (.fin s (red (t + 1) pw).1 (red (t + 1) pw).2) (.fin s ra rb) = false := by
        rw [feq_d3]
        simp only [Bool.and_eq_false_iff, decide_eq_false_iff_not]
        by_cases z1 : (red (t + 1) pw).1 = ra
        · exact .inr (.inr fun z2 => nr ⟨z1, z2⟩)
        · exact .inr (.inl z1)
      rw [fe]
      repeat walk_at "rd"
      refine iF ?_
      repeat walk_at "rd"
      exact fin H23 (s22.trans s23)
    · repeat walk_at "rd"
      exact fin H21 (Same.refl _)
end
end Nu

set_option Elab.async false
set_option linter.all false
set_option maxRecDepth 100000
set_option autoImplicit false
set_option maxHeartbeats 4000000
namespace Nu
open PySem PySem.Spec PyProof.Rows L2 Rd
local macro_rules | `(tactic| walk_at "hp") => `(tactic| first | assumption | (refine same_get ?sm ?_; (case sm => assumption); walk_at "hp"))
local macro_rules | `(tactic| walk_at "rd") => `(tactic| first
  | with_reducible refine w_nx ?_
  | with_reducible refine w_rt ?_
  | with_reducible refine w_bk ?_
  | with_reducible refine w_ct ?_
  | with_reducible refine w_seq ?_
  | with_reducible refine w_next ?_
  | with_reducible refine w_ret ?_
  | with_reducible refine w_ifS ?_
  | with_reducible refine w_asg ?_
  | with_reducible refine w_name ?_
  | with_reducible refine w_par ?_
  | with_reducible refine w_parI ?_
  | with_reducible refine w_ii ?_
  | with_reducible refine w_i1 ?_
  | with_reducible refine w_drop ?_
  | with_reducible refine w_sFld ?_
  | ((with_reducible refine' w_var ?rdh ?_); (case rdh => exact rfl))
  | with_reducible refine w_c ?_
  | with_reducible refine w_op ?_
  | with_reducible refine w_un ?_
  | with_reducible refine w_I0 ?_
  | with_reducible refine w_U ?_
  | with_reducible refine w_bits ?_
  | with_reducible refine w_bitsI ?_
  | with_reducible refine w_tup ?_
  | with_reducible refine w_lst ?_
  | with_reducible refine w_nil ?_
  | with_reducible refine w_cons ?_
  | with_reducible refine w_fld ?_
  | with_reducible refine w_call ?_
  | with_reducible refine w_make ?_
  | with_reducible refine w_gsub ?_
  | with_reducible refine w_int1 ?_
  | with_reducible refine w_intB ?_
  | with_reducible refine w_for ?_
  | with_reducible refine w_rng1 ?_
  | with_reducible refine w_iList ?_
  | with_reducible refine w_iTup ?_
  | with_reducible refine w_makeD ?_
  | with_reducible refine w_nn ?_
  | with_reducible refine w_subB ?_
  | with_reducible refine w_meth ?_
  | with_reducible refine w_cb ?_
  | with_reducible refine w_test ?_
  | with_reducible refine w_B ?_
  | with_reducible refine w_bl ?_
  | with_reducible refine w_andV ?_
  | with_reducible refine w_orV ?_
  | with_reducible refine w_notV ?_
  | with_reducible refine w_and ?_
  | with_reducible refine w_or ?_
  | with_reducible refine w_not ?_
  | with_reducible refine w_if ?_
  | with_reducible refine w_gnil ?_
  | with_reducible refine w_gcons ?_
  | with_reducible refine iT ?_
  | with_reducible refine iF ?_
  | with_reducible refine w_eqI ?_
  | with_reducible refine w_neI ?_
  | with_reducible refine w_eqS ?_
  | with_reducible refine w_eqIS ?_
  | with_reducible refine w_eqSI ?_)

section
variable {P : Program} {w : World} {K : PySem.W.Frag} {mg : Str → Option Value} {base : Heap} {CF CE CL : Addr}
/-- a row: a top and a power -/
def RowK (H : Hp) (x : L2.V) : Prop := ∃ (a : Addr) (t p : Int), x = .ref a ∧ H a = some (.tup [.int t, .int p]) ∧ 0 ≤ t ∧ bits t ≤ 100
theorem RowK.same {H H' : Hp} {x : L2.V} (h : RowK H x) (s : Same H H') : RowK H' x := let ⟨a, t, p, e, h1, h2⟩ := h; ⟨a, t, p, e, s _ _ h1, h2⟩
theorem tupR {H : Hp} {Q : VK} {t p : Int} (h0 : 0 ≤ t) (hb : bits t ≤ 100) (q : ∀ a H', Same H H' → RowK H' (.ref a) → Q (.ref a) H') : TupK [.int t, .int p] H Q :=
  w_tup2 fun a H' s n h => q a H' s ⟨a, t, p, rfl, h, h0, hb⟩
def spEdges : Sp := fun vs H Q _ => ∃ (p : Addr) (n : Nat), vs = [.ref p] ∧ Well n H p ∧ n < 700000 ∧ ∀ H', Oth p H H' → Well (n + 50) H' p → Q (.bl true) H'
theorem sc_law_edges_right : FnScope ["well", "sign", "top", "power", "rows", "some", "far", "kept", "told"] ["well"] (defScope s_law_edges_right) := ⟨rfl, rfl, rfl, by decide +kernel, rfl, by decide +kernel, by decide +kernel⟩
theorem ok_edges (T : AllP K mg CF CE CL) (k_law_draw : Kn P w K mg base CX0 1 "_law_draw" ["well", "many"] spDraw) (k_law_one : Kn P w K mg base CX0 2 "_law_one" ["well", "some"] spOne) (k_law_great : Kn P w K mg base CX0 2 "_law_great" ["well", "bits"] spGreat) (k_law_odd : Kn P w K mg base CX0 1 "_law_odd" ["top", "power"] spOdd)
    (k_law_is_float : Kn P w K mg base CX0 1 "_law_is_float" ["top", "power"] spIsF) (k_law_said : Kn P w K mg base CX0 5 "_law_said" ["sign", "top", "power"] (spSaid CF)) (k_is_number : Kn P w K mg base CX0 2 "is_number" ["thing"] (spNumber K CF)) :
    Kn P w K mg base CX0 8 "_law_edges_right" ["well"] spEdges := by
  refine T.x_edges.kn fun f fd F => ?_
  refine F.ok sc_law_edges_right (fun vs H Q E h => ?_) (fun cdv A outer s H vs Q E hr h => ?_)
  · obtain ⟨p, n, rfl, _⟩ := h
    rfl
  · obtain ⟨p, n, rfl, hw, hn, q⟩ := h
    refine ⟨_, (pss_cons (ps_par (by rfl) sc_law_edges_right.nd (i := 1) (j := 2) rfl rfl (by decide) rfl rfl (pa_cons (pk k_law_one hr (pa_cons (pv 0) (pa_cons (pe_lst (pa_cons pe_int (pa_cons (pe_un un_neg pe_int) pa_nil))) pa_nil))) (pa_cons (pk k_law_great hr (pa_cons (pv 0) (pa_cons pe_int pa_nil))) pa_nil)) (by rfl))
      (pss_cons (ps_set (i := 3) sc_law_edges_right.nd rfl (Or.inl rfl) (pe_op op_sub (pk k_law_draw hr (pa_cons (pv 0) (pa_cons pe_int pa_nil))) pe_int))
      (pss_cons (ps_set (i := 4) sc_law_edges_right.nd rfl (Or.inl rfl) (pe_lst (pa_cons (pe_tup (pa_cons (pv 2) (pa_cons (pv 3) pa_nil))) (pa_cons (pe_tup (pa_cons (pv 2) (pa_cons (pe_un un_neg pe_int) pa_nil))) (pa_cons (pe_tup (pa_cons (pe_op op_add (pe_op op_mulX (pv 2) pe_int) pe_int) (pa_cons (pe_un un_neg pe_int) pa_nil))) pa_nil)))))
      (pss_cons (ps_set (i := 4) sc_law_edges_right.nd rfl (Or.inl rfl) (pe_op op_cat (pv 4) (pe_lst (pa_cons (pe_tup (pa_cons pe_int (pa_cons (pe_un un_neg pe_int) pa_nil))) (pa_cons (pe_tup (pa_cons pe_int (pa_cons (pe_un un_neg pe_int) pa_nil))) (pa_cons (pe_tup (pa_cons pe_int (pa_cons (pe_un un_neg pe_int) pa_nil))) pa_nil))))))
      (pss_cons (ps_set (i := 4) sc_law_edges_right.nd rfl (Or.inl rfl) (pe_op op_cat (pv 4) (pe_lst (pa_cons (pe_tup (pa_cons (pe_op op_sub (pe_op op_shlW pe_int pe_int) pe_int) (pa_cons pe_int pa_nil))) (pa_cons (pe_tup (pa_cons (pe_op op_shlW pe_int pe_int) (pa_cons pe_int pa_nil))) (pa_cons (pe_tup (pa_cons (pe_op op_add (pe_op op_shlW pe_int pe_int) pe_int) (pa_cons pe_int pa_nil))) (pa_cons (pe_tup (pa_cons pe_int (pa_cons pe_int pa_nil))) (pa_cons (pe_tup (pa_cons pe_int (pa_cons pe_int pa_nil))) pa_nil))))))))
      (pss_cons (ps_set (i := 4) sc_law_edges_right.nd rfl (Or.inl rfl) (pe_op op_cat (pv 4) (pe_lst (pa_cons (pe_tup (pa_cons (pe_op op_sub (pe_op op_shlW pe_int pe_int) pe_int) (pa_cons (pe_un un_neg pe_int) pa_nil))) (pa_cons (pe_tup (pa_cons pe_int (pa_cons (pe_op op_pow pe_int pe_int) pa_nil))) (pa_cons (pe_tup (pa_cons pe_int (pa_cons (pe_un un_neg pe_int) pa_nil))) pa_nil))))))
      (pss_cons (ps_for PassesOwn.never rfl (pi_list (pv 4)) (pg_tup (by rfl) (pgs_cons (pg_name (i := 5) sc_law_edges_right.nd rfl (Or.inl rfl)) (pgs_cons (pg_name (i := 6) sc_law_edges_right.nd rfl (Or.inl rfl)) pgs_nil)))
      (pss_cons (ps_set (i := 7) sc_law_edges_right.nd rfl (Or.inl rfl) (pk k_law_odd hr (pa_cons (pv 5) (pa_cons (pv 6) pa_nil))))
      (pss_cons (ps_set (i := 8) sc_law_edges_right.nd rfl (Or.inl rfl) (pk k_law_said hr (pa_cons (pv 1) (pa_cons (pv 5) (pa_cons (pv 6) pa_nil)))))
      (pss_one (ps_if (pt_not (pt_val (pk k_law_is_float hr (pa_cons (pe_ix ix_tup (pv 7) pe_int (fun _ _ => rfl)) (pa_cons (pe_ix ix_tup (pv 7) pe_int (fun _ _ => rfl)) pa_nil))))) (pss_one (ps_if (pt_cmpR op_ne (pv 8) pe_str (nomark _)) (pss_one (ps_ret pe_bl)) pss_nil)) (pss_one (ps_if (PW.pt (pw_or (pt_not (pt_val (pk k_is_number hr (pa_cons (pv 8) pa_nil)))) (pw_or1 (pt_cmpR (op_neD hr.units) (pe_tup (pa_cons (pe_fld (pv 8) rfl) (pa_cons (pe_fld (pv 8) rfl) (pa_cons (pe_fld (pv 8) rfl) pa_nil)))) (pe_op op_catT (pe_tup (pa_cons (pv 1) pa_nil)) (pv 7)) (nomark _))))) (pss_one (ps_ret pe_bl)) pss_nil)))))))
      (pss_one (ps_ret pe_bl))))))))), ?_⟩
    have e53 : (1 : Int) * 2 ^ Int.toNat 53 = 9007199254740992 := by decide
    have e54 : (1 : Int) * 2 ^ Int.toNat 54 = 18014398509481984 := by decide
    repeat walk_at "rd"
    refine w_lst2 fun a1 H1 s1 n1 h1 => ?_
    repeat walk_at "rd"
    refine u_one (hw.same s1) (by omega) h1 (hw.ne n1) (by decide) (by decide) fun v H2 hv o2 w2 => ?_
    have o2 := (Rd.Same.oth (x := p) s1).trans o2
    obtain ⟨sg, rfl, hs⟩ : ∃ sg, v = .int sg ∧ (sg = 1 ∨ sg = -1) := by
      simp only [List.mem_cons, List.not_mem_nil, or_false] at hv
      rcases hv with rfl | rfl
      · exact ⟨_, rfl, .inl rfl⟩
      · exact ⟨_, rfl, .inr rfl⟩
    repeat walk_at "rd"
    refine u_great w2 (by omega) (by decide) (by decide) fun t H3 o3 w3 t0 t1 => ?_
    have bt : bits t ≤ 60 := bits_small t0 (k := 60) t1
    have o3 := o2.trans o3
    repeat walk_at "rd"
    refine u_draw w3 (by omega) (by decide) (by decide) fun d H4 o4 w4 d0 d1 => ?_
    have o4 := o3.trans o4
    repeat walk_at "rd"
    refine tupR t0 (by omega) fun r1 H5 s5 k1 => ?_
    repeat walk_at "rd"
    refine tupR t0 (by omega) fun r2 H6 s6 k2 => ?_
    repeat walk_at "rd"
    refine w_I (cmulx (by omega) (by decide)) ?_
    repeat walk_at "rd"
    have b3 : bits (t * 2 + 1) ≤ 100 := bits_small (by omega) (k := 100) (by
      have e1 : (2 : Int) ^ Int.toNat 60 = 1152921504606846976 := by decide
      rw [e1] at t1
      have e2 : (2 : Int) ^ 100 = 1267650600228229401496703205376 := by decide
      omega)
    refine tupR (by omega) b3 fun r3 H7 s7 k3 => ?_
    repeat walk_at "rd"
    refine w_lst3 fun l8 H8 s8 n8 h8 => ?_
    have s48 := ((s5.trans s6).trans s7).trans s8
    have K8 : ∀ x ∈ [V.ref r1, .ref r2, .ref r3], RowK H8 x := by
      intro x hx
      simp only [List.mem_cons, List.not_mem_nil, or_false] at hx
      rcases hx with rfl | rfl | rfl
      · exact k1.same ((s6.trans s7).trans s8)
      · exact k2.same (s7.trans s8)
      · exact k3.same s8
    have z8 : [V.ref r1, .ref r2, .ref r3].length = 3 := rfl
    generalize [V.ref r1, .ref r2, .ref r3] = xs1 at *
    repeat walk_at "rd"
    refine tupR (by decide) (by decide) fun q1 H9 s9 j1 => ?_
    repeat walk_at "rd"
    refine tupR (by decide) (by decide) fun q2 H10 s10 j2 => ?_
    repeat walk_at "rd"
    refine tupR (by decide) (by decide) fun q3 H11 s11 j3 => ?_
    repeat walk_at "rd"
    refine w_lst3 fun l12 H12 s12 n12 h12 => ?_
    have s812 := ((s9.trans s10).trans s11).trans s12
    refine w_cat (s812 _ _ h8) h12 (by rw [z8]; show 6 ≤ sizeLine; decide) fun l13 H13 s13 n13 h13 => ?_
    have K13 : ∀ x ∈ xs1 ++ [V.ref q1, .ref q2, .ref q3], RowK H13 x := by
      intro x hx
      rcases List.mem_append.1 hx with hx | hx
      · exact (K8 x hx).same (s812.trans s13)
      simp only [List.mem_cons, List.not_mem_nil, or_false] at hx
      rcases hx with rfl | rfl | rfl
      · exact j1.same (((s10.trans s11).trans s12).trans s13)
      · exact j2.same ((s11.trans s12).trans s13)
      · exact j3.same (s12.trans s13)
    have z13 : (xs1 ++ [V.ref q1, .ref q2, .ref q3]).length = 6 := by rw [List.length_append, z8]; rfl
    have s413 := (s48.trans s812).trans s13
    generalize xs1 ++ [V.ref q1, .ref q2, .ref q3] = xs2 at *
    clear h8 K8 z8 k1 k2 k3 j1 j2 j3
    repeat walk_at "rd"
    refine w_I (cshl (by decide) (by decide) (by decide)) ?_
    rw [e53]
    repeat walk_at "rd"
    refine tupR (by decide) (by decide) fun q1 H14 s14 j1 => ?_
    repeat walk_at "rd"
    refine w_I (cshl (by decide) (by decide) (by decide)) ?_
    rw [e53]
    repeat walk_at "rd"
    refine tupR (by decide) (by decide) fun q2 H15 s15 j2 => ?_
    repeat walk_at "rd"
    refine w_I (cshl (by decide) (by decide) (by decide)) ?_
    rw [e53]
    repeat walk_at "rd"
    refine tupR (by decide) (by decide) fun q3 H16 s16 j3 => ?_
    repeat walk_at "rd"
    refine tupR (by decide) (by decide) fun q4 H17 s17 j4 => ?_
    repeat walk_at "rd"
    refine tupR (by decide) (by decide) fun q5 H18 s18 j5 => ?_
    repeat walk_at "rd"
    refine w_lstI (by show 5 ≤ 1000; decide) fun l19 H19 s19 n19 h19 => ?_
    have s1319 := ((((s14.trans s15).trans s16).trans s17).trans s18).trans s19
    refine w_cat (s1319 _ _ h13) h19 (by rw [z13]; show 11 ≤ sizeLine; decide) fun l20 H20 s20 n20 h20 => ?_
    have K20 : ∀ x ∈ xs2 ++ [V.ref q1, .ref q2, .ref q3, .ref q4, .ref q5], RowK H20 x := by
      intro x hx
      rcases List.mem_append.1 hx with hx | hx
      · exact (K13 x hx).same (s1319.trans s20)
      simp only [List.mem_cons, List.not_mem_nil, or_false] at hx
      rcases hx with rfl | rfl | rfl | rfl | rfl
      · exact j1.same (((((s15.trans s16).trans s17).trans s18).trans s19).trans s20)
      · exact j2.same ((((s16.trans s17).trans s18).trans s19).trans s20)
      · exact j3.same (((s17.trans s18).trans s19).trans s20)
      · exact j4.same ((s18.trans s19).trans s20)
      · exact j5.same (s19.trans s20)
    have z20 : (xs2 ++ [V.ref q1, .ref q2, .ref q3, .ref q4, .ref q5]).length = 11 := by rw [List.length_append, z13]; rfl
    have s420 := (s413.trans s1319).trans s20
    generalize xs2 ++ [V.ref q1, .ref q2, .ref q3, .ref q4, .ref q5] = xs3 at *
    clear h13 K13 z13 j1 j2 j3 j4 j5
    repeat walk_at "rd"
    refine w_I (cshl (by decide) (by decide) (by decide)) ?_
    rw [e54]
    repeat walk_at "rd"
    refine tupR (by decide) (by decide) fun q1 H21 s21 j1 => ?_
    repeat walk_at "rd"
    refine w_I (cpow (by decide) (by decide) (by decide)) ?_
    repeat walk_at "rd"
    refine tupR (by decide) (by decide) fun q2 H22 s22 j2 => ?_
    repeat walk_at "rd"
    refine tupR (by decide) (by decide) fun q3 H23 s23 j3 => ?_
    repeat walk_at "rd"
    refine w_lst3 fun l24 H24 s24 n24 h24 => ?_
    have s2024 := ((s21.trans s22).trans s23).trans s24
    refine w_cat (s2024 _ _ h20) h24 (by rw [z20]; show 14 ≤ sizeLine; decide) fun L H25 s25 n25 h25 => ?_
    have K25 : ∀ x ∈ xs3 ++ [V.ref q1, .ref q2, .ref q3], RowK H25 x := by
      intro x hx
      rcases List.mem_append.1 hx with hx | hx
      · exact (K20 x hx).same (s2024.trans s25)
      simp only [List.mem_cons, List.not_mem_nil, or_false] at hx
      rcases hx with rfl | rfl | rfl
      · exact j1.same (((s22.trans s23).trans s24).trans s25)
      · exact j2.same ((s23.trans s24).trans s25)
      · exact j3.same (s24.trans s25)
    have s425 := (s420.trans s2024).trans s25
    generalize xs3 ++ [V.ref q1, .ref q2, .ref q3] = xs at *
    clear h20 K20 z20 j1 j2 j3
    have w25 := w4.same s425
    have o25 := o4.same s425
    repeat walk_at "rd"
    refine w_iListI h25 ?_
    refine for_list (xs := xs) (fun _ σ H' => ∃ c1 c2 c3 c4, σ = [some (.ref p), some (.int sg), some (.int t), some (.int (d - 1200)), some (.ref L), c1, c2, c3, c4] ∧ Same H25 H') ⟨_, _, _, _, rfl, Same.refl _⟩ (fun i σ H' _ ⟨_, _, _, _, _, h⟩ => SqL.of (h _ _ h25)) ?_ ?_
    · rintro i x σ H26 hi ⟨c1, c2, c3, c4, rfl, s26⟩
      obtain ⟨a, tt, pp, rfl, ha, tt0, btt⟩ := (K25 x (List.mem_of_getElem? hi)).same s26
      refine w_gtup ha rfl ?_
      repeat walk_at "rd"
      refine u_odd tt0 (by omega) fun kept H27 s27 h27 => ?_
      have nn := red_nn tt0 pp
      generalize ea : (red tt pp).1 = ra at *
      generalize eb : (red tt pp).2 = rb at *
      repeat walk_at "rd"
      by_cases hf : fitsB ra rb = true
      · refine ⟨_, _, _, rfl, .inr ⟨sg, pp, .fin sg ra rb, rfl, rfl, .inl ⟨tt, rfl, tt0, hs, by rw [ea, eb]; exact hf, by rw [ea, eb]⟩, fun x H28 s28 n28 h28 => ?_⟩⟩
        have h27 := s28 _ _ h27
        repeat walk_at "rd"
        refine w_ixT h27 rfl ?_
        repeat walk_at "rd"
        refine w_ixT h27 rfl ?_
        repeat walk_at "rd"
        refine u_isf ?_
        repeat walk_at "rd"
        rw [isF_eq nn, hf]
        refine iF ?_
        repeat walk_at "rd"
        refine u_num_fl T h28 ?_
        repeat walk_at "rd"
        refine iF ?_
        repeat walk_at "rd"
        obtain ⟨dx, e28⟩ := id h28
        refine w_fldI e28 T.l_Float T.n_sign (flds_s _ _ _) ?_
        repeat walk_at "rd"
        refine w_fldI e28 T.l_Float T.n_top (flds_t _ _ _) ?_
        repeat walk_at "rd"
        refine w_fldI e28 T.l_Float T.n_power (flds_p _ _ _) ?_
        repeat walk_at "rd"
        refine w_tup3 fun c29 H29 s29 n29 h29 => ?_
        have h29 : H29 c29 = some (.tup [.int sg, .int ra, .int rb]) := h29
        repeat walk_at "rd"
        refine w_tup1 fun c30 H30 s30 n30 h30 => ?_
        repeat walk_at "rd"
        refine w_catT h30 ((s29.trans s30) _ _ h27) (by simp) (by simp) (by show 3 ≤ 1000; decide) fun c31 H31 s31 n31 h31 => ?_
        have h31 : H31 c31 = some (.tup [.int sg, .int ra, .int rb]) := h31
        refine ⟨_, _, d3_dp ((s30.trans s31) _ _ h29), d3_dp h31, d3_shaped _ _ _, d3_shaped _ _ _, ?_⟩
        rw [show PyData.eqv (d3 sg ra rb) (d3 sg ra rb) = true by rw [d3_eqv]; simp]
        repeat walk_at "rd"
        refine iF ?_
        repeat walk_at "rd"
        exact ⟨_, _, _, _, rfl, ((((s26.trans s27).trans s28).trans s29).trans s30).trans s31⟩
      · have hf : fitsB ra rb = false := Bool.eq_false_iff.2 hf
        refine ⟨_, _, _, rfl, .inl ⟨_, .ft hs tt0 (by rw [ea, eb]; exact hf), fun H28 s28 => ?_⟩⟩
        have h27 := s28 _ _ h27
        repeat walk_at "rd"
        refine w_ixT h27 rfl ?_
        repeat walk_at "rd"
        refine w_ixT h27 rfl ?_
        repeat walk_at "rd"
        refine u_isf ?_
        repeat walk_at "rd"
        rw [isF_eq nn, hf]
        refine iT ?_
        repeat walk_at "rd"
        refine w_ne rfl ?_
        repeat walk_at "rd"
        refine iN (fun z => absurd rfl z) (fun _ => ?_)
        repeat walk_at "rd"
        exact ⟨_, _, _, _, rfl, (s26.trans s27).trans s28⟩
    rintro σ H26 ⟨c1, c2, c3, c4, rfl, s26⟩
    repeat walk_at "rd"
    exact q H26 (o25.same s26) ((w25.mono (by omega)).same s26)
end
end Nu

set_option Elab.async false
set_option linter.all false
set_option maxRecDepth 100000
set_option autoImplicit false
set_option maxHeartbeats 4000000
namespace Nu
open PySem PySem.Spec PyProof.Rows L2 Rd
local macro_rules | `(tactic| walk_at "hp") => `(tactic| first | assumption | (refine same_get ?sm ?_; (case sm => assumption); walk_at "hp"))
local macro_rules | `(tactic| walk_at "rd") => `(tactic| first
  | with_reducible refine w_nx ?_
  | with_reducible refine w_rt ?_
  | with_reducible refine w_bk ?_
  | with_reducible refine w_ct ?_
  | with_reducible refine w_seq ?_
  | with_reducible refine w_next ?_
  | with_reducible refine w_ret ?_
  | with_reducible refine w_ifS ?_
  | with_reducible refine w_asg ?_
  | with_reducible refine w_name ?_
  | with_reducible refine w_par ?_
  | with_reducible refine w_parI ?_
  | with_reducible refine w_ii ?_
  | with_reducible refine w_i1 ?_
  | with_reducible refine w_drop ?_
  | with_reducible refine w_sFld ?_
  | ((with_reducible refine' w_var ?rdh ?_); (case rdh => exact rfl))
  | with_reducible refine w_c ?_
  | with_reducible refine w_op ?_
  | with_reducible refine w_un ?_
  | with_reducible refine w_I0 ?_
  | with_reducible refine w_U ?_
  | with_reducible refine w_bits ?_
  | with_reducible refine w_bitsI ?_
  | with_reducible refine w_tup ?_
  | with_reducible refine w_lst ?_
  | with_reducible refine w_nil ?_
  | with_reducible refine w_cons ?_
  | with_reducible refine w_fld ?_
  | with_reducible refine w_call ?_
  | with_reducible refine w_make ?_
  | with_reducible refine w_gsub ?_
  | with_reducible refine w_int1 ?_
  | with_reducible refine w_intB ?_
  | with_reducible refine w_for ?_
  | with_reducible refine w_rng1 ?_
  | with_reducible refine w_iList ?_
  | with_reducible refine w_iTup ?_
  | with_reducible refine w_makeD ?_
  | with_reducible refine w_nn ?_
  | with_reducible refine w_subB ?_
  | with_reducible refine w_meth ?_
  | with_reducible refine w_cb ?_
  | with_reducible refine w_test ?_
  | with_reducible refine w_B ?_
  | with_reducible refine w_bl ?_
  | with_reducible refine w_andV ?_
  | with_reducible refine w_orV ?_
  | with_reducible refine w_notV ?_
  | with_reducible refine w_and ?_
  | with_reducible refine w_or ?_
  | with_reducible refine w_not ?_
  | with_reducible refine w_if ?_
  | with_reducible refine w_gnil ?_
  | with_reducible refine w_gcons ?_
  | with_reducible refine iT ?_
  | with_reducible refine iF ?_
  | with_reducible refine w_eqI ?_
  | with_reducible refine w_neI ?_
  | with_reducible refine w_eqS ?_
  | with_reducible refine w_eqIS ?_
  | with_reducible refine w_eqSI ?_)

theorem w_dnew {σ : L2.St} {H : Hp} {Q : VK} (q : ∀ p H', Same H H' → H p = none → H' p = some (.dK []) → Q (.ref p) H') : tDNewK σ H Q := fun p hp => q p _ (same_upd hp) hp upd_same
theorem dp_bls {K : PySem.W.Frag} {H : Hp} : ∀ bs : List Bool, DpAll K H (bs.map V.bl) (bs.map PyData.bool)
  | [] => .nil
  | b :: bs => .cons (.bl b) (dp_bls bs)
theorem dp_strs {K : PySem.W.Frag} {H : Hp} : ∀ bs : List Str, DpAll K H (bs.map V.str) (bs.map PyData.str)
  | [] => .nil
  | b :: bs => .cons (.str b) (dp_strs bs)
def flagsN : List Bool := [true, true, true, false, false, false, false, false, false, false]
section
variable {P : Program} {w : World} {K : PySem.W.Frag} {mg : Str → Option Value} {base : Heap} {CF CE CL : Addr}
def RowF (H : Hp) (x : L2.V) : Prop := ∃ (a : Addr) (f : Fl), x = .ref a ∧ H a = some (.tup [f.t, .int f.s]) ∧ Arg f.s f.t 0 f ∧ f.p = 0 ∧ ((∃ s, f = .inf s) ∨ f = .nan)
theorem RowF.same {H H' : Hp} {x : L2.V} (h : RowF H x) (s : Same H H') : RowF H' x := let ⟨a, f, e, h1, h2⟩ := h; ⟨a, f, e, s _ _ h1, h2⟩
theorem u_said_bad {sv tv pv : L2.V} {part : Str} {H : Hp} {Q : VK} {E : XK} (h : BadA H sv tv pv part) (q : ∀ H', Same H H' → Q (.str part) H') : spSaid CF ([sv, tv, pv] ++ []) H Q E := ⟨_, _, _, rfl, .inl ⟨part, h, q⟩⟩
def spRefused : Sp := fun vs H Q _ => vs = [] ∧ ∀ H', Same H H' → Q (.bl true) H'
theorem sc_law_refused_right : FnScope ["odd", "word", "sign", "one", "marks"] [] (defScope s_law_refused_right) := ⟨rfl, rfl, rfl, by decide +kernel, rfl, by decide +kernel, by decide +kernel⟩
theorem ok_refused (T : AllP K mg CF CE CL) (k_law_said : Kn P w K mg base CX0 5 "_law_said" ["sign", "top", "power"] (spSaid CF)) (k_is_number : Kn P w K mg base CX0 2 "is_number" ["thing"] (spNumber K CF))
    (k_whole_of : Kn P w K mg base CX0 2 "whole_of" ["number"] (spWholeN CF)) (k_Float_init : KnC P w K mg base CX0 2 "Float" CF ["self", "sign", "top", "power"] (spInit CF)) (k_Float_eq : KnM P w K mg base CX0 1 CF "__eq__" ["self", "other"] (spFEq CF)) :
    Kn P w K mg base CX0 8 "_law_refused_right" [] spRefused := by
  refine T.x_refused.kn fun f fd F => ?_
  refine F.ok sc_law_refused_right (fun vs H Q E h => ?_) (fun cdv A outer s H vs Q E hr h => ?_)
  · obtain ⟨rfl, _⟩ := h
    rfl
  · obtain ⟨rfl, q⟩ := h
    refine ⟨_, (pss_cons (ps_for PassesOwn.never rfl (pi_list (pe_lst (pa_cons pe_int (pa_cons pe_int (pa_cons (pe_un un_neg pe_int) (pa_cons pe_non (pa_cons pe_bl (pa_cons pe_str (pa_cons (pe_lst (pa_cons pe_int pa_nil)) (pa_cons pe_dnewK (pa_cons (pe_tup (pa_cons pe_int pa_nil)) pa_nil))))))))))) (pg_name (i := 0) sc_law_refused_right.nd rfl (Or.inl rfl))
      (pss_one (ps_if (pt_cmpR op_ne (pk k_law_said hr (pa_cons (pv 0) (pa_cons (pv 0) (pa_cons pe_non pa_nil)))) pe_str (nomark _)) (pss_one (ps_ret pe_bl)) pss_nil)))
      (pss_cons (ps_for PassesOwn.never rfl (pi_list (pe_lst (pa_cons (pe_un un_neg pe_int) (pa_cons pe_non (pa_cons pe_bl (pa_cons pe_str (pa_cons pe_str (pa_cons (pe_lst (pa_cons pe_int pa_nil)) (pa_cons pe_dnewK (pa_cons (pe_tup (pa_cons pe_int pa_nil)) (pa_cons pe_str pa_nil))))))))))) (pg_name (i := 0) sc_law_refused_right.nd rfl (Or.inl rfl))
      (pss_one (ps_if (pt_cmpR op_ne (pk k_law_said hr (pa_cons (pe_un un_neg pe_int) (pa_cons (pv 0) (pa_cons pe_non pa_nil)))) pe_str (nomark _)) (pss_one (ps_ret pe_bl)) pss_nil)))
      (pss_cons (ps_for PassesOwn.never rfl (pi_list (pe_lst (pa_cons pe_non (pa_cons pe_bl (pa_cons pe_str (pa_cons (pe_lst (pa_cons pe_int pa_nil)) (pa_cons pe_dnewK (pa_cons (pe_tup (pa_cons pe_int pa_nil)) pa_nil)))))))) (pg_name (i := 0) sc_law_refused_right.nd rfl (Or.inl rfl))
      (pss_one (ps_if (pt_cmpR (op_neD hr.units) (pe_lst (pa_cons (pk k_law_said hr (pa_cons pe_int (pa_cons pe_int (pa_cons (pv 0) pa_nil)))) (pa_cons (pk k_law_said hr (pa_cons (pe_un un_neg pe_int) (pa_cons pe_str (pa_cons (pv 0) pa_nil)))) (pa_cons (pk k_law_said hr (pa_cons pe_int (pa_cons pe_str (pa_cons (pv 0) pa_nil)))) pa_nil)))) (pe_op op_rep (pe_lst (pa_cons pe_str pa_nil)) pe_int) (nomark _)) (pss_one (ps_ret pe_bl)) pss_nil)))
      (pss_cons (ps_if (pt_cmpR (op_neD hr.units) (pe_lst (pa_cons (pk k_law_said hr (pa_cons (pe_un un_neg pe_int) (pa_cons pe_str (pa_cons pe_int pa_nil)))) (pa_cons (pk k_law_said hr (pa_cons pe_int (pa_cons pe_str (pa_cons pe_int pa_nil)))) (pa_cons (pk k_law_said hr (pa_cons pe_int (pa_cons pe_str (pa_cons (pe_un un_neg pe_int) pa_nil)))) pa_nil)))) (pe_lst (pa_cons pe_str (pa_cons pe_str (pa_cons pe_str pa_nil)))) (nomark _)) (pss_one (ps_ret pe_bl)) pss_nil)
      (pss_cons (ps_for PassesOwn.never rfl (pi_list (pe_lst (pa_cons (pe_tup (pa_cons pe_str (pa_cons pe_int pa_nil))) (pa_cons (pe_tup (pa_cons pe_str (pa_cons (pe_un un_neg pe_int) pa_nil))) (pa_cons (pe_tup (pa_cons pe_str (pa_cons pe_int pa_nil))) pa_nil))))) (pg_tup (by rfl) (pgs_cons (pg_name (i := 1) sc_law_refused_right.nd rfl (Or.inl rfl)) (pgs_cons (pg_name (i := 2) sc_law_refused_right.nd rfl (Or.inl rfl)) pgs_nil)))
      (pss_cons (ps_set (i := 3) sc_law_refused_right.nd rfl (Or.inl rfl) (pkC k_Float_init hr (pa_cons (pv 2) (pa_cons (pv 1) (pa_cons pe_int pa_nil)))))
      (pss_cons (ps_if (pt_cmpR (op_neD hr.units) (pe_tup (pa_cons (pe_fld (pv 3) rfl) (pa_cons (pe_fld (pv 3) rfl) (pa_cons (pe_fld (pv 3) rfl) pa_nil)))) (pe_tup (pa_cons (pv 2) (pa_cons (pv 1) (pa_cons pe_int pa_nil)))) (nomark _)) (pss_one (ps_ret pe_bl)) pss_nil)
      (pss_cons (ps_if (pt_cmpR (op_neOwn k_Float_eq T.q_Float hr) (pv 3) (pkC k_Float_init hr (pa_cons (pv 2) (pa_cons (pv 1) (pa_cons pe_int pa_nil)))) (nomark _)) (pss_one (ps_ret pe_bl)) pss_nil)
      (pss_one (ps_if (pt_cmpR op_notN (pk k_whole_of hr (pa_cons (pv 3) pa_nil)) pe_non (nomark _)) (pss_one (ps_ret pe_bl)) pss_nil))))))
      (pss_cons (ps_setLc (i := 4) (own := [("one", 3)]) (g := (gName 3)) (tt := tYes) rfl sc_law_refused_right.nd rfl rfl (sw_true rfl rfl rfl (by decide +kernel)) (pi_list (pe_lst (pa_cons pe_int (pa_cons (pe_un un_neg (pe_op op_pow pe_int pe_int)) (pa_cons (pkC k_Float_init hr (pa_cons pe_int (pa_cons pe_str (pa_cons pe_int pa_nil)))) (pa_cons pe_bl (pa_cons pe_bl (pa_cons pe_non (pa_cons pe_str (pa_cons (pe_lst (pa_cons pe_int pa_nil)) (pa_cons pe_dnewK (pa_cons (pe_tup (pa_cons pe_int pa_nil)) pa_nil)))))))))))) (blkOk_by (N := ["odd", "word", "sign", "one", "marks"]) (sc := defScope s_law_refused_right) (by decide +kernel)) (fun _ _ _ _ _ => (pg_name (i := 3) sc_law_refused_right.nd rfl (Or.inl rfl))) (fun _ _ _ _ _ => pts_nil) (fun _ _ _ _ _ => (pk k_is_number hr (pa_cons (pv 3) pa_nil))))
      (pss_one (ps_ret (pe_cmpR (op_eqD hr.units) (pv 4) (pe_op op_cat (pe_op op_rep (pe_lst (pa_cons pe_bl pa_nil)) pe_int) (pe_op op_rep (pe_lst (pa_cons pe_bl pa_nil)) pe_int)) (nomark _)))))))))), ?_⟩
    repeat walk_at "rd"
    refine w_lst1 fun b1 H1 s1 n1 h1 => ?_
    repeat walk_at "rd"
    refine w_dnew fun b2 H2 s2 n2 h2 => ?_
    repeat walk_at "rd"
    refine w_tup1 fun b3 H3 s3 n3 h3 => ?_
    repeat walk_at "rd"
    refine w_lstI (by show 9 ≤ 1000; decide) fun L H4 s4 n4 h4 => ?_
    refine w_iListI h4 ?_
    have B4 : ∀ x ∈ [V.int 0, .int 2, .int (-2), .non, .bl true, .str "1", .ref b1, .ref b2, .ref b3], BadA H4 x x .non "sign" := by
      intro x hx
      simp only [List.mem_cons, List.not_mem_nil, or_false] at hx
      rcases hx with rfl | rfl | rfl | rfl | rfl | rfl | rfl | rfl | rfl
      · exact .si (by decide) (by decide)
      · exact .si (by decide) (by decide)
      · exact .si (by decide) (by decide)
      · exact .sg .non
      · exact .sg (.bl _)
      · exact .sg (.str _)
      · exact .sg (.lst (((s2.trans s3).trans s4) _ _ h1))
      · exact .sg (.dic ((s3.trans s4) _ _ h2))
      · exact .sg (.tup (s4 _ _ h3))
    have s04 := ((s1.trans s2).trans s3).trans s4
    clear h1 h2 h3 n1 n2 n3 n4 s1 s2 s3 s4
    refine for_list (xs := [V.int 0, .int 2, .int (-2), .non, .bl true, .str "1", .ref b1, .ref b2, .ref b3]) (fun _ σ H' => ∃ c, σ = [c, none, none, none, none] ∧ Same H4 H') ⟨_, rfl, Same.refl _⟩ (fun i σ H' _ ⟨_, _, h⟩ => SqL.of (h _ _ h4)) ?_ ?_
    · rintro i x σ H5 hi ⟨c, rfl, s5⟩
      repeat walk_at "rd"
      refine u_said_bad ((B4 x (List.mem_of_getElem? hi)).same s5) fun H6 s6 => ?_
      repeat walk_at "rd"
      refine w_ne rfl ?_
      repeat walk_at "rd"
      refine iN (fun z => absurd rfl z) (fun _ => ?_)
      repeat walk_at "rd"
      exact ⟨_, rfl, s5.trans s6⟩
    rintro σ H5 ⟨c, rfl, s5⟩
    have s05 := s04.trans s5
    clear B4 h4 s04 s5
    repeat walk_at "rd"
    refine w_lst1 fun b1 H1 s1 n1 h1 => ?_
    repeat walk_at "rd"
    refine w_dnew fun b2 H2 s2 n2 h2 => ?_
    repeat walk_at "rd"
    refine w_tup1 fun b3 H3 s3 n3 h3 => ?_
    repeat walk_at "rd"
    refine w_lstI (by show 9 ≤ 1000; decide) fun L H4 s4 n4 h4 => ?_
    refine w_iListI h4 ?_
    have B4 : ∀ x ∈ [V.int (-1), .non, .bl true, .str "infinity", .str "", .ref b1, .ref b2, .ref b3, .str "NaN"], BadA H4 (.int (-1)) x .non "top" := by
      intro x hx
      simp only [List.mem_cons, List.not_mem_nil, or_false] at hx
      rcases hx with rfl | rfl | rfl | rfl | rfl | rfl | rfl | rfl | rfl
      · exact .tm (.inr rfl) (by decide)
      · exact .tn (.inr rfl) .non ⟨fun e => (nomatch e), fun e => (nomatch e)⟩
      · exact .tn (.inr rfl) (.bl _) ⟨fun e => (nomatch e), fun e => (nomatch e)⟩
      · exact .tn (.inr rfl) (.str _) ⟨fun e => absurd (V.str.inj e) (by decide +kernel), fun e => absurd (V.str.inj e) (by decide +kernel)⟩
      · exact .tn (.inr rfl) (.str _) ⟨fun e => absurd (V.str.inj e) (by decide +kernel), fun e => absurd (V.str.inj e) (by decide +kernel)⟩
      · exact .tn (.inr rfl) (.lst (((s2.trans s3).trans s4) _ _ h1)) ⟨fun e => (nomatch e), fun e => (nomatch e)⟩
      · exact .tn (.inr rfl) (.dic ((s3.trans s4) _ _ h2)) ⟨fun e => (nomatch e), fun e => (nomatch e)⟩
      · exact .tn (.inr rfl) (.tup (s4 _ _ h3)) ⟨fun e => (nomatch e), fun e => (nomatch e)⟩
      · exact .tn (.inr rfl) (.str _) ⟨fun e => absurd (V.str.inj e) (by decide +kernel), fun e => absurd (V.str.inj e) (by decide +kernel)⟩
    have s04 := s05.trans (((s1.trans s2).trans s3).trans s4)
    clear h1 h2 h3 n1 n2 n3 n4 s1 s2 s3 s4 s05
    refine for_list (xs := [V.int (-1), .non, .bl true, .str "infinity", .str "", .ref b1, .ref b2, .ref b3, .str "NaN"]) (fun _ σ H' => ∃ c, σ = [c, none, none, none, none] ∧ Same H4 H') ⟨_, rfl, Same.refl _⟩ (fun i σ H' _ ⟨_, _, h⟩ => SqL.of (h _ _ h4)) ?_ ?_
    · rintro i x σ H5 hi ⟨c, rfl, s5⟩
      repeat walk_at "rd"
      refine u_said_bad ((B4 x (List.mem_of_getElem? hi)).same s5) fun H6 s6 => ?_
      repeat walk_at "rd"
      refine w_ne rfl ?_
      repeat walk_at "rd"
      refine iN (fun z => absurd rfl z) (fun _ => ?_)
      repeat walk_at "rd"
      exact ⟨_, rfl, s5.trans s6⟩
    rintro σ H5 ⟨c, rfl, s5⟩
    have s05 := s04.trans s5
    clear B4 h4 s04 s5
    repeat walk_at "rd"
    refine w_lst1 fun b1 H1 s1 n1 h1 => ?_
    repeat walk_at "rd"
    refine w_dnew fun b2 H2 s2 n2 h2 => ?_
    repeat walk_at "rd"
    refine w_tup1 fun b3 H3 s3 n3 h3 => ?_
    repeat walk_at "rd"
    refine w_lstI (by show 6 ≤ 1000; decide) fun L H4 s4 n4 h4 => ?_
    refine w_iListI h4 ?_
    have B4 : ∀ x ∈ [V.non, .bl true, .str "0", .ref b1, .ref b2, .ref b3], NP H4 x := by
      intro x hx
      simp only [List.mem_cons, List.not_mem_nil, or_false] at hx
      rcases hx with rfl | rfl | rfl | rfl | rfl | rfl
      · exact .non
      · exact .bl _
      · exact .str _
      · exact .lst (((s2.trans s3).trans s4) _ _ h1)
      · exact .dic ((s3.trans s4) _ _ h2)
      · exact .tup (s4 _ _ h3)
    have s04 := s05.trans (((s1.trans s2).trans s3).trans s4)
    clear h1 h2 h3 n1 n2 n3 n4 s1 s2 s3 s4 s05
    refine for_list (xs := [V.non, .bl true, .str "0", .ref b1, .ref b2, .ref b3]) (fun _ σ H' => ∃ c, σ = [c, none, none, none, none] ∧ Same H4 H') ⟨_, rfl, Same.refl _⟩ (fun i σ H' _ ⟨_, _, h⟩ => SqL.of (h _ _ h4)) ?_ ?_
    · rintro i x σ H5 hi ⟨c, rfl, s5⟩
      have np := (B4 x (List.mem_of_getElem? hi)).same s5
      repeat walk_at "rd"
      refine u_said_bad (.tp (.inl rfl) (by decide) np) fun H6 s6 => ?_
      repeat walk_at "rd"
      refine u_said_bad (.pw (.inr rfl) (.inl rfl) (np.same s6)) fun H7 s7 => ?_
      repeat walk_at "rd"
      refine u_said_bad (.pw (.inl rfl) (.inr ⟨rfl, rfl⟩) ((np.same s6).same s7)) fun H8 s8 => ?_
      repeat walk_at "rd"
      refine w_lst3 fun l9 H9 s9 n9 h9 => ?_
      repeat walk_at "rd"
      refine w_lst1 fun l10 H10 s10 n10 h10 => ?_
      repeat walk_at "rd"
      refine w_rep h10 (by decide) (by decide) (by decide) fun l11 H11 s11 n11 h11 => ?_
      have h11 : H11 l11 = some (.lst [.str "power", .str "power", .str "power"]) := h11
      refine ⟨_, _, .lst (SqL.of ((s10.trans s11) _ _ h9)) (dp_strs ["power", "power", "power"]), .lst (SqL.of h11) (dp_strs ["power", "power", "power"]), by decide +kernel, by decide +kernel, ?_⟩
      rw [show PyData.eqv (.list ((["power", "power", "power"] : List Str).map PyData.str)) (.list ((["power", "power", "power"] : List Str).map PyData.str)) = true from by decide +kernel]
      repeat walk_at "rd"
      refine iF ?_
      repeat walk_at "rd"
      exact ⟨_, rfl, (((((s5.trans s6).trans s7).trans s8).trans s9).trans s10).trans s11⟩
    rintro σ H5 ⟨c, rfl, s5⟩
    have s05 := s04.trans s5
    clear B4 h4 s04 s5
    repeat walk_at "rd"
    refine u_said_bad .nn fun H6 s6 => ?_
    repeat walk_at "rd"
    refine u_said_bad (.pi (.inl rfl) (.inl rfl) (by decide)) fun H7 s7 => ?_
    repeat walk_at "rd"
    refine u_said_bad (.pi (.inl rfl) (.inr ⟨rfl, rfl⟩) (by decide)) fun H8 s8 => ?_
    repeat walk_at "rd"
    refine w_lst3 fun l9 H9 s9 n9 h9 => ?_
    repeat walk_at "rd"
    refine w_lst3 fun l10 H10 s10 n10 h10 => ?_
    refine ⟨_, _, .lst (SqL.of (s10 _ _ h9)) (dp_strs ["sign", "power", "power"]), .lst (SqL.of h10) (dp_strs ["sign", "power", "power"]), by decide +kernel, by decide +kernel, ?_⟩
    rw [show PyData.eqv (.list ((["sign", "power", "power"] : List Str).map PyData.str)) (.list ((["sign", "power", "power"] : List Str).map PyData.str)) = true from by decide +kernel]
    repeat walk_at "rd"
    refine iF ?_
    have s10 := ((((s05.trans s6).trans s7).trans s8).trans s9).trans s10
    clear s05 s6 s7 s8 s9 h9 n9 h10 n10
    repeat walk_at "rd"
    refine w_tup2 fun r1 H1 s1 n1 h1 => ?_
    repeat walk_at "rd"
    refine w_tup2 fun r2 H2 s2 n2 h2 => ?_
    repeat walk_at "rd"
    refine w_tup2 fun r3 H3 s3 n3 h3 => ?_
    repeat walk_at "rd"
    refine w_lst3 fun L H4 s4 n4 h4 => ?_
    refine w_iListI h4 ?_
    have B4 : ∀ x ∈ [V.ref r1, .ref r2, .ref r3], RowF H4 x := by
      intro x hx
      simp only [List.mem_cons, List.not_mem_nil, or_false] at hx
      rcases hx with rfl | rfl | rfl
      · exact ⟨_, .inf 1, rfl, ((s2.trans s3).trans s4) _ _ h1, .inr (.inl ⟨rfl, rfl, .inl rfl, rfl⟩), rfl, .inl ⟨1, rfl⟩⟩
      · exact ⟨_, .inf (-1), rfl, (s3.trans s4) _ _ h2, .inr (.inl ⟨rfl, rfl, .inr rfl, rfl⟩), rfl, .inl ⟨-1, rfl⟩⟩
      · exact ⟨_, .nan, rfl, s4 _ _ h3, .inr (.inr ⟨rfl, rfl, rfl, rfl⟩), rfl, .inr rfl⟩
    have s04 := s10.trans (((s1.trans s2).trans s3).trans s4)
    clear h1 h2 h3 n1 n2 n3 n4 s1 s2 s3 s4 s10
    refine for_list (xs := [V.ref r1, .ref r2, .ref r3]) (fun _ σ H' => ∃ c c1 c2 c3, σ = [c, c1, c2, c3, none] ∧ Same H4 H') ⟨_, _, _, _, rfl, Same.refl _⟩ (fun i σ H' _ ⟨_, _, _, _, _, h⟩ => SqL.of (h _ _ h4)) ?_ ?_
    · rintro i x σ H5 hi ⟨c, c1, c2, c3, rfl, s5⟩
      obtain ⟨a, f, rfl, ha, ag, fp, fi⟩ := (B4 x (List.mem_of_getElem? hi)).same s5
      refine w_gtup ha rfl ?_
      repeat walk_at "rd"
      refine u_Float ag fun one H6 s6 n6 h6 => ?_
      obtain ⟨dx, e6⟩ := id h6
      repeat walk_at "rd"
      refine w_fldI e6 T.l_Float T.n_sign (flds_s _ _ _) ?_
      repeat walk_at "rd"
      refine w_fldI e6 T.l_Float T.n_top (flds_t _ _ _) ?_
      repeat walk_at "rd"
      refine w_fldI e6 T.l_Float T.n_power (flds_p _ _ _) ?_
      repeat walk_at "rd"
      refine w_tup3 fun t7 H7 s7 n7 h7 => ?_
      repeat walk_at "rd"
      refine w_tup3 fun t8 H8 s8 n8 h8 => ?_
      rw [show (V.int 0) = V.int f.p by rw [fp]] at h8
      refine ⟨_, _, fall_dp (s8 _ _ h7), fall_dp h8, fall_shaped f, fall_shaped f, ?_⟩
      rw [show PyData.eqv (fall f) (fall f) = true from feq_self f]
      repeat walk_at "rd"
      refine iF ?_
      repeat walk_at "rd"
      refine u_Float ag fun two H9 s9 n9 h9 => ?_
      have h6 := ((h6.same s7).same s8).same s9
      refine u_eqF h6 h9 fun H10 s10 => ?_
      repeat walk_at "rd"
      refine iF ?_
      repeat walk_at "rd"
      refine ⟨one, f, rfl, h6.same s10, fi, ?_⟩
      repeat walk_at "rd"
      refine iN (fun z => absurd rfl z) (fun _ => ?_)
      repeat walk_at "rd"
      exact ⟨_, _, _, _, rfl, ((((s5.trans s6).trans s7).trans s8).trans s9).trans s10⟩
    rintro σ H5 ⟨c, c1, c2, c3, rfl, s5⟩
    have s05 := s04.trans s5
    clear B4 h4 s04 s5
    repeat walk_at "rd"
    refine w_lc ?_
    repeat walk_at "rd"
    refine w_I (cpow (by decide) (by decide) (by decide)) ?_
    repeat walk_at "rd"
    refine u_Float (.inr (.inr ⟨rfl, rfl, rfl, rfl⟩)) fun fl H6 s6 n6 h6 => ?_
    repeat walk_at "rd"
    refine w_lst1 fun b1 H1 s1 n1 h1 => ?_
    repeat walk_at "rd"
    refine w_dnew fun b2 H2 s2 n2 h2 => ?_
    repeat walk_at "rd"
    refine w_tup1 fun b3 H3 s3 n3 h3 => ?_
    repeat walk_at "rd"
    refine w_lstI (by show 10 ≤ 1000; decide) fun L H4 s4 n4 h4 => ?_
    have s64 := ((s1.trans s2).trans s3).trans s4
    have h6 := h6.same s64
    have k1 := ((s2.trans s3).trans s4) _ _ h1
    have k2 := (s3.trans s4) _ _ h2
    have k3 := s4 _ _ h3
    have s04 := (s05.trans s6).trans s64
    clear h1 h2 h3 n1 n2 n3 n4 s1 s2 s3 s4 s05 s6 s64 n6
    have B4 : ∀ (i : Nat) (x : L2.V), ([V.int 3, .int (-10 ^ Int.toNat 18), .ref fl, .bl true, .bl false, .non, .str "3", .ref b1, .ref b2, .ref b3] : List L2.V)[i]? = some x → ∃ b, flagsN[i]? = some b ∧ ((b = true ∧ ((∃ j, x = .int j) ∨ ∃ a, x = .ref a ∧ FlAt CF H4 a .nan)) ∨ (b = false ∧ NP H4 x)) := by
      intro i x hi
      match i, hi with
      | 0, hi => cases hi; exact ⟨true, rfl, .inl ⟨rfl, .inl ⟨_, rfl⟩⟩⟩
      | 1, hi => cases hi; exact ⟨true, rfl, .inl ⟨rfl, .inl ⟨_, rfl⟩⟩⟩
      | 2, hi => cases hi; exact ⟨true, rfl, .inl ⟨rfl, .inr ⟨_, rfl, h6⟩⟩⟩
      | 3, hi => cases hi; exact ⟨false, rfl, .inr ⟨rfl, .bl _⟩⟩
      | 4, hi => cases hi; exact ⟨false, rfl, .inr ⟨rfl, .bl _⟩⟩
      | 5, hi => cases hi; exact ⟨false, rfl, .inr ⟨rfl, .non⟩⟩
      | 6, hi => cases hi; exact ⟨false, rfl, .inr ⟨rfl, .str _⟩⟩
      | 7, hi => cases hi; exact ⟨false, rfl, .inr ⟨rfl, .lst k1⟩⟩
      | 8, hi => cases hi; exact ⟨false, rfl, .inr ⟨rfl, .dic k2⟩⟩
      | 9, hi => cases hi; exact ⟨false, rfl, .inr ⟨rfl, .tup k3⟩⟩
      | n + 10, hi => cases hi
    refine w_iListI h4 fun D nD => ?_
    have zl : ([V.int 3, .int (-10 ^ Int.toNat 18), .ref fl, .bl true, .bl false, .non, .str "3", .ref b1, .ref b2, .ref b3] : List L2.V).length = 10 := rfl
    refine lc_list (xs := [V.int 3, .int (-10 ^ Int.toNat 18), .ref fl, .bl true, .bl false, .non, .str "3", .ref b1, .ref b2, .ref b3]) (fun i H' => Same H4 H' ∧ H' D = some (.lst ((flagsN.take i).map V.bl))) ⟨same_upd nD, upd_same⟩ (fun i H' _ p => SqL.of (p.1 _ _ h4)) ?_ ?_
    · intro i x H' hi ⟨p1, p2⟩
      obtain ⟨b, hb, hx⟩ := B4 i x hi
      have hl : i < 10 := by
        have := (List.getElem?_eq_some_iff.mp hb).1
        exact this
      have tk : (flagsN.take (i + 1)).map V.bl = (flagsN.take i).map V.bl ++ [.bl b] := by
        rw [List.take_succ, hb, List.map_append]
        rfl
      have done : ∃ acc, H' D = some (.lst acc) ∧ acc.length < sizeLine ∧ Same H4 (upd H' D (.lst (acc ++ [.bl b]))) ∧ (upd H' D (.lst (acc ++ [.bl b]))) D = some (.lst ((flagsN.take (i + 1)).map V.bl)) := by
        refine ⟨_, p2, ?_, same_put p1 nD, ?_⟩
        · rw [List.length_map, List.length_take]
          exact Nat.lt_of_le_of_lt (Nat.min_le_left _ _) (Nat.lt_of_lt_of_le hl (by decide))
        · rw [tk]
          exact upd_same
      repeat walk_at "rd"
      refine ⟨rfl, ?_⟩
      refine w_yes ?_
      refine iT ?_
      repeat walk_at "rd"
      rcases hx with ⟨rfl, ⟨j, rfl⟩ | ⟨a, rfl, hf⟩⟩ | ⟨rfl, np⟩
      · exact ⟨_, _, _, _, _, rfl, says_int T.toAll, done⟩
      · exact u_num_fl T (hf.same p1) done
      · exact u_num_np T (np.same p1) done
    intro H7 ⟨s7, e7⟩
    repeat walk_at "rd"
    refine w_lst1 fun l8 H8 s8 n8 h8 => ?_
    repeat walk_at "rd"
    refine w_rep h8 (by decide) (by decide) (by decide) fun l9 H9 s9 n9 h9 => ?_
    repeat walk_at "rd"
    refine w_lst1 fun l10 H10 s10 n10 h10 => ?_
    repeat walk_at "rd"
    refine w_rep h10 (by decide) (by decide) (by decide) fun l11 H11 s11 n11 h11 => ?_
    refine w_cat ((s10.trans s11) _ _ h9) h11 (by decide) fun l12 H12 s12 n12 h12 => ?_
    have h12 : H12 l12 = some (.lst (flagsN.map V.bl)) := h12
    have s712 := (((s8.trans s9).trans s10).trans s11).trans s12
    have e12 : H12 D = some (.lst (flagsN.map V.bl)) := s712 _ _ e7
    refine ⟨_, _, .lst (SqL.of e12) (dp_bls flagsN), .lst (SqL.of h12) (dp_bls flagsN), by decide +kernel, by decide +kernel, ?_⟩
    rw [show PyData.eqv (.list (flagsN.map PyData.bool)) (.list (flagsN.map PyData.bool)) = true from by decide +kernel]
    exact q H12 ((s04.trans s7).trans s712)
end
end Nu

set_option Elab.async false
set_option linter.all false
set_option maxRecDepth 100000
set_option autoImplicit false
set_option maxHeartbeats 4000000
namespace Nu
open PySem PySem.Spec PyProof.Rows L2 Rd
local macro_rules | `(tactic| walk_at "hp") => `(tactic| first | assumption | (refine same_get ?sm ?_; (case sm => assumption); walk_at "hp"))
local macro_rules | `(tactic| walk_at "rd") => `(tactic| first
  | with_reducible refine w_nx ?_
  | with_reducible refine w_rt ?_
  | with_reducible refine w_bk ?_
  | with_reducible refine w_ct ?_
  | with_reducible refine w_seq ?_
  | with_reducible refine w_next ?_
  | with_reducible refine w_ret ?_
  | with_reducible refine w_ifS ?_
  | with_reducible refine w_asg ?_
  | with_reducible refine w_name ?_
  | with_reducible refine w_par ?_
  | with_reducible refine w_parI ?_
  | with_reducible refine w_ii ?_
  | with_reducible refine w_i1 ?_
  | with_reducible refine w_drop ?_
  | with_reducible refine w_sFld ?_
  | ((with_reducible refine' w_var ?rdh ?_); (case rdh => exact rfl))
  | with_reducible refine w_c ?_
  | with_reducible refine w_op ?_
  | with_reducible refine w_un ?_
  | with_reducible refine w_I0 ?_
  | with_reducible refine w_U ?_
  | with_reducible refine w_bits ?_
  | with_reducible refine w_bitsI ?_
  | with_reducible refine w_tup ?_
  | with_reducible refine w_lst ?_
  | with_reducible refine w_nil ?_
  | with_reducible refine w_cons ?_
  | with_reducible refine w_fld ?_
  | with_reducible refine w_call ?_
  | with_reducible refine w_make ?_
  | with_reducible refine w_gsub ?_
  | with_reducible refine w_int1 ?_
  | with_reducible refine w_intB ?_
  | with_reducible refine w_for ?_
  | with_reducible refine w_rng1 ?_
  | with_reducible refine w_iList ?_
  | with_reducible refine w_iTup ?_
  | with_reducible refine w_makeD ?_
  | with_reducible refine w_nn ?_
  | with_reducible refine w_subB ?_
  | with_reducible refine w_meth ?_
  | with_reducible refine w_cb ?_
  | with_reducible refine w_test ?_
  | with_reducible refine w_B ?_
  | with_reducible refine w_bl ?_
  | with_reducible refine w_andV ?_
  | with_reducible refine w_orV ?_
  | with_reducible refine w_notV ?_
  | with_reducible refine w_and ?_
  | with_reducible refine w_or ?_
  | with_reducible refine w_not ?_
  | with_reducible refine w_if ?_
  | with_reducible refine w_gnil ?_
  | with_reducible refine w_gcons ?_
  | with_reducible refine iT ?_
  | with_reducible refine iF ?_
  | with_reducible refine w_eqI ?_
  | with_reducible refine w_neI ?_
  | with_reducible refine w_eqS ?_
  | with_reducible refine w_eqIS ?_
  | with_reducible refine w_eqSI ?_)

section
variable {P : Program} {w : World} {K : PySem.W.Frag} {mg : Str → Option Value} {base : Heap} {CF CE CL : Addr}
def spLaw (K : PySem.W.Frag) : Sp := fun vs H Q _ => ∃ (a : Addr) (ns : List Int), vs = [.ref a] ∧ SqL K H a (ns.map V.int) ∧ ns.length ≤ 63 ∧ (∀ z ∈ ns, bits z ≤ 1048576) ∧ ∀ H', Q (.bl true) H'
theorem sc_law : FnScope ["script", "cell", "well", "turn"] ["script"] (defScope s_law) := ⟨rfl, rfl, rfl, by decide +kernel, rfl, by decide +kernel, by decide +kernel⟩
theorem ok_law (T : AllP K mg CF CE CL) (k_law_well : Kn P w K mg base CX0 1 "_law_well" ["cell"] spWell) (k_law_made_right : Kn P w K mg base CX0 8 "_law_made_right" ["well"] spMade) (k_law_edges_right : Kn P w K mg base CX0 8 "_law_edges_right" ["well"] spEdges)
    (k_law_refused_right : Kn P w K mg base CX0 8 "_law_refused_right" [] spRefused) {f : Addr} {fd : FuncData} (F : Fun K "law" "law" s_law f fd) : FnOk P w K mg base CX0 11 f fd ["script"] (spLaw K) := by
  refine F.ok sc_law (fun vs H Q E h => ?_) (fun cdv A outer s H vs Q E hr h => ?_)
  · obtain ⟨a, ns, rfl, _⟩ := h
    rfl
  · obtain ⟨a, ns, rfl, hS, hl, hb, q⟩ := h
    refine ⟨_, (pss_cons (ps_for PassesOwn.never rfl (pi_list (pe_slice sl_list (pe_op op_catS (pv 0) (pe_lst (pa_cons pe_int pa_nil))) po_none (po_some pe_int))) (pg_name (i := 1) sc_law.nd rfl (Or.inl rfl))
      (pss_cons (ps_set (i := 2) sc_law.nd rfl (Or.inl rfl) (pk k_law_well hr (pa_cons (pv 1) pa_nil)))
      (pss_cons (ps_for PassesOwn.never rfl (pi_range1 rfl T.b_range (pa_cons pe_int pa_nil)) (pg_name (i := 3) sc_law.nd rfl (Or.inl rfl))
      (pss_one (ps_if (pt_not (pt_val (pk k_law_made_right hr (pa_cons (pv 2) pa_nil)))) (pss_one (ps_ret pe_bl)) pss_nil)))
      (pss_one (ps_if (pt_not (pt_val (pk k_law_edges_right hr (pa_cons (pv 2) pa_nil)))) (pss_one (ps_ret pe_bl)) pss_nil)))))
      (pss_one (ps_ret (pk0 k_law_refused_right hr)))), ?_⟩
    repeat walk_at "rd"
    refine w_sl ?_
    repeat walk_at "rd"
    refine w_lst1 fun b1 H1 s1 n1 h1 => ?_
    refine w_catS (hS.same s1) h1 (by rw [List.length_map]; exact Nat.le_trans (Nat.add_le_add_right hl _) (by show 63 + 1 ≤ sizeLine; decide)) fun b2 H2 s2 n2 h2 => ?_
    refine w_noPart ?_
    refine w_part ?_
    repeat walk_at "rd"
    refine w_slL h2 fun L H3 s3 n3 h3 => ?_
    refine w_iListI h3 ?_
    have hx : ∀ x ∈ cutV (ns.map V.int ++ [V.int 0]) none (some 8), ∃ z, x = .int z ∧ bits z ≤ 1048576 := by
      intro x hx
      have := cut_mem hx
      simp only [List.mem_append, List.mem_map, List.mem_cons, List.not_mem_nil, or_false] at this
      rcases this with ⟨z, hz, rfl⟩ | rfl
      · exact ⟨z, rfl, hb z hz⟩
      · exact ⟨0, rfl, by decide⟩
    generalize cutV (ns.map V.int ++ [V.int 0]) none (some 8) = xs at h3 hx
    refine for_list (xs := xs) (fun _ σ H' => ∃ c w t, σ = [some (.ref a), c, w, t] ∧ H' L = some (.lst xs)) ⟨_, _, _, rfl, h3⟩ (fun i σ H' _ ⟨_, _, _, _, h⟩ => SqL.of h) ?_ ?_
    · rintro i x σ H4 hi ⟨c, w1, tt, rfl, h4⟩
      obtain ⟨z, rfl, hz⟩ := hx x (List.mem_of_getElem? hi)
      repeat walk_at "rd"
      refine ⟨z, rfl, hz, fun p H5 s5 n5 w5 => ?_⟩
      have neL : L ≠ p := ne_of_none h4 n5
      have h5 := s5 _ _ h4
      repeat walk_at "rd"
      refine ⟨by decide, by decide, ?_⟩
      refine for_range (lo := 0) (fun i σ H' => ∃ tt, σ = [some (.ref a), some (.int z), some (.ref p), tt] ∧ H' L = some (.lst xs) ∧ Well (i * 100) H' p) ⟨_, rfl, h5, w5⟩ ?_ ?_
      · rintro k σ H6 hk ⟨t6, rfl, hL6, w6⟩
        have hk : k < 6 := hk
        repeat walk_at "rd"
        refine ⟨p, _, rfl, w6, by omega, fun H7 o7 w7 => ?_⟩
        repeat walk_at "rd"
        refine iF ?_
        repeat walk_at "rd"
        exact ⟨_, rfl, o7 _ _ neL hL6, w7.mono (by omega)⟩
      · rintro σ H6 ⟨t6, rfl, hL6, w6⟩
        have w6 : Well 600 H6 p := w6
        repeat walk_at "rd"
        refine ⟨p, _, rfl, w6, by omega, fun H7 o7 w7 => ?_⟩
        repeat walk_at "rd"
        refine iF ?_
        repeat walk_at "rd"
        exact ⟨_, _, _, rfl, o7 _ _ neL hL6⟩
    · rintro σ' H4 ⟨c, w1, tt, rfl, h4⟩
      repeat walk_at "rd"
      exact ⟨rfl, fun H' _ => q H'⟩
end
end Nu

set_option Elab.async false
set_option linter.all false
set_option maxRecDepth 100000
set_option autoImplicit false
set_option maxHeartbeats 4000000
namespace Nu
open PySem PySem.Spec PyProof.Rows L2 Rd
local macro_rules | `(tactic| walk_at "rd") => `(tactic| first
  | with_reducible refine w_nx ?_
  | with_reducible refine w_seq ?_
  | with_reducible refine w_drop ?_
  | with_reducible refine w_nil ?_
  | with_reducible refine w_cons ?_
  | ((with_reducible refine' w_var ?rdh ?_); (case rdh => exact rfl)))
theorem exm_own {K : PySem.W.Frag} {C D : Addr} (h1 : PySem.W.subIn K (.ref D) (.type "BaseException") = some true) (h2 : PySem.W.isClsIn K D = true) (h3 : PySem.W.typeIn K (.ref D) = some (.type "type")) (h4 : PySem.W.subIn K (.ref C) (.ref D) = some true) : PySem.W.exmOne K (.ref C) (.ref D) = some true := by
  have e2 : (PySem.W.clsIn K D).isSome = true := h2
  unfold PySem.W.exmOne PySem.W.kitCls
  simp [h1, h3, h4, e2]
theorem w_ai {K : PySem.W.Frag} {ta : TA} {σ : L2.St} {H : Hp} {Q : VK} (h : ta σ H fun vs H1 => ∃ (a C : Addr) (ws : List L2.V), vs = .ref a :: ws ∧ ws.length ≤ 1000 ∧ AexC K C ∧ H1 a = some (exo a C none) ∧ Q .non H1) : tAI K ta σ H Q := h
theorem w_ast {K : PySem.W.Frag} {f : Str} {to te : TE} {D : Ends} {σ : L2.St} {H : Hp} (h : te σ H fun y H1 => to σ H1 fun x H2 => ∃ a C : Addr, x = .ref a ∧ AexC K C ∧ PySem.W.findIn K (.ref C) f = some none ∧
  ((H2 a = some (exo a C none) ∧ ∀ dx, H2 dx = none → dx ≠ a → D.nx σ (upd (upd H2 a (exo a C (some dx))) dx (exd dx [(f, y)]))) ∨
    ∃ (dx : Addr) (fs : List (Str × L2.V)), H2 a = some (exo a C (some dx)) ∧ H2 dx = some (exd dx fs) ∧ fs.length ≤ 900 ∧ D.nx σ (upd H2 dx (exd dx ((f, y) :: fs))))) : tAst K f to te D σ H := h
theorem sc_InvalidArgument_init : FnScope ["self", "part"] ["self", "part"] (defScope s_InvalidArgument_init) := ⟨rfl, rfl, rfl, by decide +kernel, rfl, by decide +kernel, by decide +kernel⟩
theorem ia_kn {P : Program} {w : World} {K : PySem.W.Frag} {mg : Str → Option Value} {base : Heap} {CF CE CL : Addr} (T : AllP K mg CF CE CL) {f : Addr} {fd : FuncData}
    (F : Fun K "__init__" "InvalidArgument.__init__" s_InvalidArgument_init f fd) (hb : Binds K fd ["self", "part"] []) (a : PySem.W.findIn K (.ref CE) "__init__" = some (some (.ref f))) (t : PySem.W.typeIn K (.ref f) = some (.type "function")) : KnIA P w K mg base CE := by
  refine ⟨f, fd, T.g_InvalidArgument, T.a_InvalidArgument, a, t, hb, ?_⟩
  refine F.ok sc_InvalidArgument_init (fun vs H Q E h => ?_) (fun cdv A outer s H vs Q E hr h => ?_)
  · obtain ⟨x, v, rfl, _⟩ := h
    rfl
  · obtain ⟨x, v, rfl, hx, q⟩ := h
    refine ⟨_, (pss_cons (ps_expr (pe_linit rfl T.g_LuaError T.r_LuaError (pa_cons (pv 0) (pa_cons (pv 1) pa_nil)))) (pss_one (ps_ast (pv 0) (pv 1)))), ?_⟩
    repeat walk_at "rd"
    refine w_ai ?_
    repeat walk_at "rd"
    refine ⟨x, CE, [v], rfl, by show 1 ≤ 1000; decide, T.a_InvalidArgument, hx, ?_⟩
    repeat walk_at "rd"
    refine w_ast ?_
    repeat walk_at "rd"
    refine ⟨x, CE, rfl, T.a_InvalidArgument, T.xn_part, .inl ⟨hx, fun d hd hda => ?_⟩⟩
    exact q d hd hda
theorem ok_all {P : Program} {w : World} {K : PySem.W.Frag} {mg : Str → Option Value} {base : Heap} {CF CE CL : Addr} (T : AllP K mg CF CE CL) (kI : KnIA P w K mg base CE) {f : Addr} {fd : FuncData} (F : Fun K "law" "law" s_law f fd) : FnOk P w K mg base CX0 20 f fd ["script"] (spLaw K) := by
  have A := T.toAll
  have k1 := ok_is_plain (P := P) (w := w) (base := base) A
  have k2 := ok_reduced (P := P) (w := w) (base := base) A
  have k3 := ok_fits (P := P) (w := w) (base := base) A
  have k4 := ok_sign_of (P := P) (w := w) (base := base) A
  have k5 := ok_init (P := P) (w := w) (base := base) A k1 k2 k3
  have k6 := ok_infinity (P := P) (w := w) (base := base) A k5
  have k7 := ok_nearest (P := P) (w := w) (base := base) A k5 k6
  have k8 := ok_is_finite (P := P) (w := w) (base := base) A
  have k9 := ok_ratio (P := P) (w := w) (base := base) A
  have k11 := ok_to_float (P := P) (w := w) (base := base) A k4 k7
  have k18 := ok_well (P := P) (w := w) (base := base) T.toAllL
  have k19 := ok_draw (P := P) (w := w) (base := base) T.toAllL
  have k20 := ok_one (P := P) (w := w) (base := base) T.toAllL k19
  have k21 := ok_great (P := P) (w := w) (base := base) T.toAllM k19
  have k22 := ok_finite (P := P) (w := w) (base := base) T.toAllM k19 k20 k21
  have e1 := ok_eq (P := P) (w := w) (base := base) T
  have e2 := ok_eqNi (P := P) (w := w) (base := base) T
  have x1 := ok_initX (P := P) (w := w) (base := base) T kI k1 k2 k3
  have x2 := ok_said (P := P) (w := w) (base := base) T x1
  have j1 := ok_odd (P := P) (w := w) (base := base) T
  have j2 := ok_isf (P := P) (w := w) (base := base) T
  have j3 := ok_is_number (P := P) (w := w) (base := base) T k1
  have j4 := ok_whole_of (P := P) (w := w) (base := base) T k8 k9
  have m1 := ok_made (P := P) (w := w) (base := base) T k19 k22 j1 j2 k5 e1 e2 k11 j3
  have m2 := ok_edges (P := P) (w := w) (base := base) T k19 k20 k21 j1 j2 x2 j3
  have m3 := ok_refused (P := P) (w := w) (base := base) T x2 j3 j4 k5 e1
  exact (ok_law T k18 m1 m2 m3 F).mono (by decide)
theorem fin_mk {l : PySem.W.OpenLaw} {w : World} {K : PySem.W.Frag} {h : Heap} {mg : Str → Option Value} {fa : Addr} (X : K.In h) (G : h.Ns mainGlobals mg) (hfa : mg "law" = some (.ref fa))
    {t_LEAST : Tok}
    {t_MOST : Tok}
    {t_ROOM : Tok}
    {t_LOWEST : Tok}
    {t_TOO_GREAT : Tok}
    {CF : Addr}
    {f1 : Addr} {od1 an1 : Option Addr} {sl1 : Array (Option Value)} {oc1 dc1 pm1 cd1 ct1 kV1 : Value}
    {f2 : Addr} {od2 an2 : Option Addr} {sl2 : Array (Option Value)} {oc2 dc2 pm2 cd2 ct2 kV2 : Value}
    {f3 : Addr} {od3 an3 : Option Addr} {sl3 : Array (Option Value)} {oc3 dc3 pm3 cd3 ct3 kV3 : Value}
    {f4 : Addr} {od4 an4 : Option Addr} {sl4 : Array (Option Value)} {oc4 dc4 pm4 cd4 ct4 kV4 : Value}
    {f5 : Addr} {od5 an5 : Option Addr} {sl5 : Array (Option Value)} {oc5 dc5 pm5 cd5 ct5 kV5 : Value}
    {f6 : Addr} {od6 an6 : Option Addr} {sl6 : Array (Option Value)} {oc6 dc6 pm6 cd6 ct6 kV6 : Value}
    {f7 : Addr} {od7 an7 : Option Addr} {sl7 : Array (Option Value)} {oc7 dc7 pm7 cd7 ct7 kV7 : Value}
    {f8 : Addr} {od8 an8 : Option Addr} {sl8 : Array (Option Value)} {oc8 dc8 pm8 cd8 ct8 kV8 : Value}
    {f9 : Addr} {od9 an9 : Option Addr} {sl9 : Array (Option Value)} {oc9 dc9 pm9 cd9 ct9 kV9 : Value}
    {f10 : Addr} {od10 an10 : Option Addr} {sl10 : Array (Option Value)} {oc10 dc10 pm10 cd10 ct10 kV10 : Value}
    {f11 : Addr} {od11 an11 : Option Addr} {sl11 : Array (Option Value)} {oc11 dc11 pm11 cd11 ct11 kV11 : Value}
    {f12 : Addr} {od12 an12 : Option Addr} {sl12 : Array (Option Value)} {oc12 dc12 pm12 cd12 ct12 kV12 : Value}
    {f13 : Addr} {od13 an13 : Option Addr} {sl13 : Array (Option Value)} {oc13 dc13 pm13 cd13 ct13 kV13 : Value}
    {f14 : Addr} {od14 an14 : Option Addr} {sl14 : Array (Option Value)} {oc14 dc14 pm14 cd14 ct14 kV14 : Value}
    {f15 : Addr} {od15 an15 : Option Addr} {sl15 : Array (Option Value)} {oc15 dc15 pm15 cd15 ct15 kV15 : Value}
    {f16 : Addr} {od16 an16 : Option Addr} {sl16 : Array (Option Value)} {oc16 dc16 pm16 cd16 ct16 kV16 : Value}
    {f17 : Addr} {od17 an17 : Option Addr} {sl17 : Array (Option Value)} {oc17 dc17 pm17 cd17 ct17 kV17 : Value}
    {f18 : Addr} {od18 an18 : Option Addr} {sl18 : Array (Option Value)} {oc18 dc18 pm18 cd18 ct18 kV18 : Value}
    {f19 : Addr} {od19 an19 : Option Addr} {sl19 : Array (Option Value)} {oc19 dc19 pm19 cd19 ct19 kV19 : Value}
    {f20 : Addr} {od20 an20 : Option Addr} {sl20 : Array (Option Value)} {oc20 dc20 pm20 cd20 ct20 kV20 : Value}
    {f21 : Addr} {od21 an21 : Option Addr} {sl21 : Array (Option Value)} {oc21 dc21 pm21 cd21 ct21 kV21 : Value}
    {f22 : Addr} {od22 an22 : Option Addr} {sl22 : Array (Option Value)} {oc22 dc22 pm22 cd22 ct22 kV22 : Value}
    {f23 : Addr} {od23 an23 : Option Addr} {sl23 : Array (Option Value)} {oc23 dc23 pm23 cd23 ct23 kV23 : Value}
    {f24 : Addr} {od24 an24 : Option Addr} {sl24 : Array (Option Value)} {oc24 dc24 pm24 cd24 ct24 kV24 : Value}
    {f25 : Addr} {od25 an25 : Option Addr} {sl25 : Array (Option Value)} {oc25 dc25 pm25 cd25 ct25 kV25 : Value}
    
    
    {CE CL : Addr} {f99 : Addr} {od99 an99 : Option Addr} {sl99 : Array (Option Value)} {oc99 dc99 pm99 cd99 ct99 kV99 : Value}
    
    
    
    
    
    
    
    
    (b_isinstance : PySem.W.nsIn K mainGlobals "isinstance" = some none)
    (b_int : PySem.W.nsIn K mainGlobals "int" = some none)
    (b_str : PySem.W.nsIn K mainGlobals "str" = some none)
    (b_bool : PySem.W.nsIn K mainGlobals "bool" = some none)
    (b_abs : PySem.W.nsIn K mainGlobals "abs" = some none)
    (b_max : PySem.W.nsIn K mainGlobals "max" = some none)
    (b_min : PySem.W.nsIn K mainGlobals "min" = some none)
    (b_divmod : PySem.W.nsIn K mainGlobals "divmod" = some none)
    (b_len : PySem.W.nsIn K mainGlobals "len" = some none)
    (b_range : PySem.W.nsIn K mainGlobals "range" = some none)
    (b_NotImplemented : PySem.W.nsIn K mainGlobals "NotImplemented" = some none)
    (c_LEAST : PySem.W.nsIn K mainGlobals "LEAST" = some (some (.int (-9223372036854775808) t_LEAST)))
    (c_MOST : PySem.W.nsIn K mainGlobals "MOST" = some (some (.int (9223372036854775807) t_MOST)))
    (c_ROOM : PySem.W.nsIn K mainGlobals "ROOM" = some (some (.int (9007199254740992) t_ROOM)))
    (c_LOWEST : PySem.W.nsIn K mainGlobals "LOWEST" = some (some (.int (-1074) t_LOWEST)))
    (c_TOO_GREAT : PySem.W.nsIn K mainGlobals "TOO_GREAT" = some (some (.int (1024) t_TOO_GREAT)))
    (g_Float : PySem.W.nsIn K mainGlobals "Float" = some (some (.ref CF)))
    (pg_Float : PySem.W.plainGet K CF Str.empty = true)
    (hd_Float : PySem.W.hasDictIn K CF = true)
    (po_Float : PySem.W.plainOver K CF = true)
    (sa_Float : PySem.W.findIn K (.ref CF) "__setattr__" = some (some (.builtin "object.__setattr__")))
    (yc_Float : PySem.W.findIn K (.ref CF) "__class__" = some (some (.builtin "object.__class__")))
    (ym_Float : PySem.W.mroIn K CF (.type "object") = some true)
    (n_sign : PySem.W.findIn K (.ref CF) "sign" = some none)
    (n_top : PySem.W.findIn K (.ref CF) "top" = some none)
    (n_power : PySem.W.findIn K (.ref CF) "power" = some none)
    (i_Fint : PySem.W.kitOne K (.ref CF) (.type "int") = some false)
    (i_Fbool : PySem.W.kitOne K (.ref CF) (.type "bool") = some false)
    (i_Fstr : PySem.W.kitOne K (.ref CF) (.type "str") = some false)
    (i_intF : PySem.W.kitOne K (.type "int") (.ref CF) = some false)
    (i_boolF : PySem.W.kitOne K (.type "bool") (.ref CF) = some false)
    (i_strF : PySem.W.kitOne K (.type "str") (.ref CF) = some false)
    (i_nonF : PySem.W.kitOne K (.type "NoneType") (.ref CF) = some false)
    (i_listF : PySem.W.kitOne K (.type "list") (.ref CF) = some false)
    (i_tupleF : PySem.W.kitOne K (.type "tuple") (.ref CF) = some false)
    (i_dictF : PySem.W.kitOne K (.type "dict") (.ref CF) = some false)
    (mk_Float : PySem.W.makesIn K CF = true)
    (kc_Float : PySem.W.keepIn K (.ref CF) = true)
    (y_spec : PySem.W.specialIn K (.builtin "object.__class__") "__get__" = some (some (.builtin "getset_descriptor.__get__")))
    (y_takes : PySem.W.takesIn K (.builtin "object.__class__") = some true)
    (a1 : PySem.W.findIn K (.ref CF) "__init__" = some (some (.ref f1)))
    (l1 : K.lookup f1 = some ⟨oc1, od1, .func (PySem.W.fnOf "__init__" "Float.__init__" (defArgs s_Float_init) (defBody s_Float_init) (defScope s_Float_init) .none kV1 dc1 pm1 an1 cd1 ct1), sl1⟩)
    (c1 : PySem.W.codeIn K cd1 "Float.__init__" = true)
    (k1 : PySem.W.keepIn K (.ref f1) = true)
    (i1 : PySem.W.isFn K (.ref f1) = true)
    (a2 : PySem.W.findIn K (.ref CF) "is_finite" = some (some (.ref f2)))
    (l2 : K.lookup f2 = some ⟨oc2, od2, .func (PySem.W.fnOf "is_finite" "Float.is_finite" (defArgs s_Float_is_finite) (defBody s_Float_is_finite) (defScope s_Float_is_finite) .none kV2 dc2 pm2 an2 cd2 ct2), sl2⟩)
    (c2 : PySem.W.codeIn K cd2 "Float.is_finite" = true)
    (k2 : PySem.W.keepIn K (.ref f2) = true)
    (i2 : PySem.W.isFn K (.ref f2) = true)
    (a3 : PySem.W.findIn K (.ref CF) "ratio" = some (some (.ref f3)))
    (l3 : K.lookup f3 = some ⟨oc3, od3, .func (PySem.W.fnOf "ratio" "Float.ratio" (defArgs s_Float_ratio) (defBody s_Float_ratio) (defScope s_Float_ratio) .none kV3 dc3 pm3 an3 cd3 ct3), sl3⟩)
    (c3 : PySem.W.codeIn K cd3 "Float.ratio" = true)
    (k3 : PySem.W.keepIn K (.ref f3) = true)
    (i3 : PySem.W.isFn K (.ref f3) = true)
    (a4 : PySem.W.findIn K (.ref CF) "__eq__" = some (some (.ref f4)))
    (l4 : K.lookup f4 = some ⟨oc4, od4, .func (PySem.W.fnOf "__eq__" "Float.__eq__" (defArgs s_Float_eq) (defBody s_Float_eq) (defScope s_Float_eq) .none kV4 dc4 pm4 an4 cd4 ct4), sl4⟩)
    (c4 : PySem.W.codeIn K cd4 "Float.__eq__" = true)
    (k4 : PySem.W.keepIn K (.ref f4) = true)
    (i4 : PySem.W.isFn K (.ref f4) = true)
    (a5 : PySem.W.nsIn K mainGlobals "is_plain" = some (some (.ref f5)))
    (l5 : K.lookup f5 = some ⟨oc5, od5, .func (PySem.W.fnOf "is_plain" "is_plain" (defArgs s_is_plain) (defBody s_is_plain) (defScope s_is_plain) .none kV5 dc5 pm5 an5 cd5 ct5), sl5⟩)
    (c5 : PySem.W.codeIn K cd5 "is_plain" = true)
    (k5 : PySem.W.keepIn K (.ref f5) = true)
    (a6 : PySem.W.nsIn K mainGlobals "reduced" = some (some (.ref f6)))
    (l6 : K.lookup f6 = some ⟨oc6, od6, .func (PySem.W.fnOf "reduced" "reduced" (defArgs s_reduced) (defBody s_reduced) (defScope s_reduced) .none kV6 dc6 pm6 an6 cd6 ct6), sl6⟩)
    (c6 : PySem.W.codeIn K cd6 "reduced" = true)
    (k6 : PySem.W.keepIn K (.ref f6) = true)
    (a7 : PySem.W.nsIn K mainGlobals "fits" = some (some (.ref f7)))
    (l7 : K.lookup f7 = some ⟨oc7, od7, .func (PySem.W.fnOf "fits" "fits" (defArgs s_fits) (defBody s_fits) (defScope s_fits) .none kV7 dc7 pm7 an7 cd7 ct7), sl7⟩)
    (c7 : PySem.W.codeIn K cd7 "fits" = true)
    (k7 : PySem.W.keepIn K (.ref f7) = true)
    (a8 : PySem.W.nsIn K mainGlobals "sign_of" = some (some (.ref f8)))
    (l8 : K.lookup f8 = some ⟨oc8, od8, .func (PySem.W.fnOf "sign_of" "sign_of" (defArgs s_sign_of) (defBody s_sign_of) (defScope s_sign_of) .none kV8 dc8 pm8 an8 cd8 ct8), sl8⟩)
    (c8 : PySem.W.codeIn K cd8 "sign_of" = true)
    (k8 : PySem.W.keepIn K (.ref f8) = true)
    (a9 : PySem.W.nsIn K mainGlobals "infinity" = some (some (.ref f9)))
    (l9 : K.lookup f9 = some ⟨oc9, od9, .func (PySem.W.fnOf "infinity" "infinity" (defArgs s_infinity) (defBody s_infinity) (defScope s_infinity) .none kV9 dc9 pm9 an9 cd9 ct9), sl9⟩)
    (c9 : PySem.W.codeIn K cd9 "infinity" = true)
    (k9 : PySem.W.keepIn K (.ref f9) = true)
    (a10 : PySem.W.nsIn K mainGlobals "nearest" = some (some (.ref f10)))
    (l10 : K.lookup f10 = some ⟨oc10, od10, .func (PySem.W.fnOf "nearest" "nearest" (defArgs s_nearest) (defBody s_nearest) (defScope s_nearest) .none kV10 dc10 pm10 an10 cd10 ct10), sl10⟩)
    (c10 : PySem.W.codeIn K cd10 "nearest" = true)
    (k10 : PySem.W.keepIn K (.ref f10) = true)
    (a11 : PySem.W.nsIn K mainGlobals "to_float" = some (some (.ref f11)))
    (l11 : K.lookup f11 = some ⟨oc11, od11, .func (PySem.W.fnOf "to_float" "to_float" (defArgs s_to_float) (defBody s_to_float) (defScope s_to_float) .none kV11 dc11 pm11 an11 cd11 ct11), sl11⟩)
    (c11 : PySem.W.codeIn K cd11 "to_float" = true)
    (k11 : PySem.W.keepIn K (.ref f11) = true)
    (a12 : PySem.W.nsIn K mainGlobals "is_number" = some (some (.ref f12)))
    (l12 : K.lookup f12 = some ⟨oc12, od12, .func (PySem.W.fnOf "is_number" "is_number" (defArgs s_is_number) (defBody s_is_number) (defScope s_is_number) .none kV12 dc12 pm12 an12 cd12 ct12), sl12⟩)
    (c12 : PySem.W.codeIn K cd12 "is_number" = true)
    (k12 : PySem.W.keepIn K (.ref f12) = true)
    (a13 : PySem.W.nsIn K mainGlobals "whole_of" = some (some (.ref f13)))
    (l13 : K.lookup f13 = some ⟨oc13, od13, .func (PySem.W.fnOf "whole_of" "whole_of" (defArgs s_whole_of) (defBody s_whole_of) (defScope s_whole_of) .none kV13 dc13 pm13 an13 cd13 ct13), sl13⟩)
    (c13 : PySem.W.codeIn K cd13 "whole_of" = true)
    (k13 : PySem.W.keepIn K (.ref f13) = true)
    (a14 : PySem.W.nsIn K mainGlobals "_law_well" = some (some (.ref f14)))
    (l14 : K.lookup f14 = some ⟨oc14, od14, .func (PySem.W.fnOf "_law_well" "_law_well" (defArgs s_law_well) (defBody s_law_well) (defScope s_law_well) .none kV14 dc14 pm14 an14 cd14 ct14), sl14⟩)
    (c14 : PySem.W.codeIn K cd14 "_law_well" = true)
    (k14 : PySem.W.keepIn K (.ref f14) = true)
    (a15 : PySem.W.nsIn K mainGlobals "_law_draw" = some (some (.ref f15)))
    (l15 : K.lookup f15 = some ⟨oc15, od15, .func (PySem.W.fnOf "_law_draw" "_law_draw" (defArgs s_law_draw) (defBody s_law_draw) (defScope s_law_draw) .none kV15 dc15 pm15 an15 cd15 ct15), sl15⟩)
    (c15 : PySem.W.codeIn K cd15 "_law_draw" = true)
    (k15 : PySem.W.keepIn K (.ref f15) = true)
    (a16 : PySem.W.nsIn K mainGlobals "_law_one" = some (some (.ref f16)))
    (l16 : K.lookup f16 = some ⟨oc16, od16, .func (PySem.W.fnOf "_law_one" "_law_one" (defArgs s_law_one) (defBody s_law_one) (defScope s_law_one) .none kV16 dc16 pm16 an16 cd16 ct16), sl16⟩)
    (c16 : PySem.W.codeIn K cd16 "_law_one" = true)
    (k16 : PySem.W.keepIn K (.ref f16) = true)
    (a17 : PySem.W.nsIn K mainGlobals "_law_great" = some (some (.ref f17)))
    (l17 : K.lookup f17 = some ⟨oc17, od17, .func (PySem.W.fnOf "_law_great" "_law_great" (defArgs s_law_great) (defBody s_law_great) (defScope s_law_great) .none kV17 dc17 pm17 an17 cd17 ct17), sl17⟩)
    (c17 : PySem.W.codeIn K cd17 "_law_great" = true)
    (k17 : PySem.W.keepIn K (.ref f17) = true)
    (a18 : PySem.W.nsIn K mainGlobals "_law_finite" = some (some (.ref f18)))
    (l18 : K.lookup f18 = some ⟨oc18, od18, .func (PySem.W.fnOf "_law_finite" "_law_finite" (defArgs s_law_finite) (defBody s_law_finite) (defScope s_law_finite) .none kV18 dc18 pm18 an18 cd18 ct18), sl18⟩)
    (c18 : PySem.W.codeIn K cd18 "_law_finite" = true)
    (k18 : PySem.W.keepIn K (.ref f18) = true)
    (a19 : PySem.W.nsIn K mainGlobals "_law_odd" = some (some (.ref f19)))
    (l19 : K.lookup f19 = some ⟨oc19, od19, .func (PySem.W.fnOf "_law_odd" "_law_odd" (defArgs s_law_odd) (defBody s_law_odd) (defScope s_law_odd) .none kV19 dc19 pm19 an19 cd19 ct19), sl19⟩)
    (c19 : PySem.W.codeIn K cd19 "_law_odd" = true)
    (k19 : PySem.W.keepIn K (.ref f19) = true)
    (a20 : PySem.W.nsIn K mainGlobals "_law_is_float" = some (some (.ref f20)))
    (l20 : K.lookup f20 = some ⟨oc20, od20, .func (PySem.W.fnOf "_law_is_float" "_law_is_float" (defArgs s_law_is_float) (defBody s_law_is_float) (defScope s_law_is_float) .none kV20 dc20 pm20 an20 cd20 ct20), sl20⟩)
    (c20 : PySem.W.codeIn K cd20 "_law_is_float" = true)
    (k20 : PySem.W.keepIn K (.ref f20) = true)
    (a21 : PySem.W.nsIn K mainGlobals "_law_said" = some (some (.ref f21)))
    (l21 : K.lookup f21 = some ⟨oc21, od21, .func (PySem.W.fnOf "_law_said" "_law_said" (defArgs s_law_said) (defBody s_law_said) (defScope s_law_said) .none kV21 dc21 pm21 an21 cd21 ct21), sl21⟩)
    (c21 : PySem.W.codeIn K cd21 "_law_said" = true)
    (k21 : PySem.W.keepIn K (.ref f21) = true)
    (a22 : PySem.W.nsIn K mainGlobals "_law_made_right" = some (some (.ref f22)))
    (l22 : K.lookup f22 = some ⟨oc22, od22, .func (PySem.W.fnOf "_law_made_right" "_law_made_right" (defArgs s_law_made_right) (defBody s_law_made_right) (defScope s_law_made_right) .none kV22 dc22 pm22 an22 cd22 ct22), sl22⟩)
    (c22 : PySem.W.codeIn K cd22 "_law_made_right" = true)
    (k22 : PySem.W.keepIn K (.ref f22) = true)
    (a23 : PySem.W.nsIn K mainGlobals "_law_edges_right" = some (some (.ref f23)))
    (l23 : K.lookup f23 = some ⟨oc23, od23, .func (PySem.W.fnOf "_law_edges_right" "_law_edges_right" (defArgs s_law_edges_right) (defBody s_law_edges_right) (defScope s_law_edges_right) .none kV23 dc23 pm23 an23 cd23 ct23), sl23⟩)
    (c23 : PySem.W.codeIn K cd23 "_law_edges_right" = true)
    (k23 : PySem.W.keepIn K (.ref f23) = true)
    (a24 : PySem.W.nsIn K mainGlobals "_law_refused_right" = some (some (.ref f24)))
    (l24 : K.lookup f24 = some ⟨oc24, od24, .func (PySem.W.fnOf "_law_refused_right" "_law_refused_right" (defArgs s_law_refused_right) (defBody s_law_refused_right) (defScope s_law_refused_right) .none kV24 dc24 pm24 an24 cd24 ct24), sl24⟩)
    (c24 : PySem.W.codeIn K cd24 "_law_refused_right" = true)
    (k24 : PySem.W.keepIn K (.ref f24) = true)
    (a25 : PySem.W.nsIn K mainGlobals "law" = some (some (.ref f25)))
    (l25 : K.lookup f25 = some ⟨oc25, od25, .func (PySem.W.fnOf "law" "law" (defArgs s_law) (defBody s_law) (defScope s_law) .none kV25 dc25 pm25 an25 cd25 ct25), sl25⟩)
    (c25 : PySem.W.codeIn K cd25 "law" = true)
    (k25 : PySem.W.keepIn K (.ref f25) = true)
    (ne_Float : PySem.W.findIn K (.ref CF) "__ne__" = some (some (.builtin "object.__ne__")))
    (ns_l : PySem.W.subIn K (.ref CF) (.type "list") = some false)
    (ns_t : PySem.W.subIn K (.ref CF) (.type "tuple") = some false)
    (g_InvalidArgument : PySem.W.nsIn K mainGlobals "InvalidArgument" = some (some (.ref CE)))
    (th_made : PySem.W.excInitIn K CE aeMro "ArithmeticError.__new__" = true)
    (th_over : PySem.W.excOver K CE aeMro = true)
    (th_hd : PySem.W.hasDictIn K CE = true)
    (th_sa : PySem.W.findIn K (.ref CE) "__setattr__" = some (some (.builtin "object.__setattr__")))
    (th_ex : PySem.W.subIn K (.ref CE) (.type "BaseException") = some true)
    (th_ty : PySem.W.typeIn K (.ref CE) = some (.type "type"))
    (th_kp : PySem.W.keepIn K (.ref CE) = true)
    (th_ga : PySem.W.findIn K (.ref CE) "__getattribute__" = some (some (.builtin "BaseException.__getattribute__")))
    (th_gg : PySem.W.findIn K (.ref CE) "__getattr__" = some none)
    (xn_part : PySem.W.findIn K (.ref CE) "part" = some none)
    (th_ic : PySem.W.isClsIn K CE = true)
    (th_self : PySem.W.kitOne K (.ref CE) (.ref CE) = some true)
    (th_yc : PySem.W.findIn K (.ref CE) "__class__" = some (some (.builtin "object.__class__")))
    (th_ym : PySem.W.mroIn K CE (.type "object") = some true)
    (g_LuaError : PySem.W.nsIn K mainGlobals "LuaError" = some (some (.ref CL)))
    (th_sc : PySem.W.subIn K (.ref CE) (.ref CL) = some true)
    (le_ex : PySem.W.subIn K (.ref CL) (.type "BaseException") = some true)
    (le_ic : PySem.W.isClsIn K CL = true)
    (le_rd : PySem.W.readsIn K CL (.type "type") = true)
    (le_ga : PySem.W.specialIn K (.ref CL) "__getattribute__" = some (some (.builtin "type.__getattribute__")))
    (le_ty : PySem.W.typeIn K (.ref CL) = some (.type "type"))
    (le_vi : PySem.W.findCls K (.ref CL) (.type "type") "__init__" = some (.val (.builtin "ArithmeticError.__init__")))
    (a99 : PySem.W.findIn K (.ref CE) "__init__" = some (some (.ref f99)))
    (l99 : K.lookup f99 = some ⟨oc99, od99, .func (PySem.W.fnOf "__init__" "InvalidArgument.__init__" (defArgs s_InvalidArgument_init) (defBody s_InvalidArgument_init) (defScope s_InvalidArgument_init) .none kV99 dc99 pm99 an99 cd99 ct99), sl99⟩)
    (c99 : PySem.W.codeIn K cd99 "InvalidArgument.__init__" = true)
    (k99 : PySem.W.keepIn K (.ref f99) = true)
    (i99 : PySem.W.typeIn K (.ref f99) = some (.type "function"))
    : ∃ fd : FuncData, (∀ (s : Shared) (v : Value), BindsTo s fd ⟨[v], []⟩ [("script", v)]) ∧ ∀ base : Heap, K.In base → base.Ns mainGlobals mg → FnOk l.prog w K mg base CX0 20 fa fd ["script"] (spLaw K) := by
  have e := hfa.symm.trans (PySem.W.mg_of X G a25)
  cases e
  have T : AllP K mg CF CE CL := {
    b_isinstance := PySem.W.mg_none_of X G b_isinstance
    b_int := PySem.W.mg_none_of X G b_int
    b_str := PySem.W.mg_none_of X G b_str
    b_bool := PySem.W.mg_none_of X G b_bool
    b_abs := PySem.W.mg_none_of X G b_abs
    b_max := PySem.W.mg_none_of X G b_max
    b_min := PySem.W.mg_none_of X G b_min
    b_divmod := PySem.W.mg_none_of X G b_divmod
    b_len := PySem.W.mg_none_of X G b_len
    b_range := PySem.W.mg_none_of X G b_range
    b_NotImplemented := PySem.W.mg_none_of X G b_NotImplemented
    c_LEAST := ⟨_, PySem.W.mg_of X G c_LEAST⟩
    c_MOST := ⟨_, PySem.W.mg_of X G c_MOST⟩
    c_ROOM := ⟨_, PySem.W.mg_of X G c_ROOM⟩
    c_LOWEST := ⟨_, PySem.W.mg_of X G c_LOWEST⟩
    c_TOO_GREAT := ⟨_, PySem.W.mg_of X G c_TOO_GREAT⟩
    g_Float := PySem.W.mg_of X G g_Float
    l_Float := ⟨pg_Float, hd_Float, po_Float, sa_Float⟩
    y_Float := ⟨yc_Float, y_spec, y_takes, ym_Float⟩
    n_sign := n_sign
    n_top := n_top
    n_power := n_power
    i_Fint := i_Fint
    i_Fbool := i_Fbool
    i_Fstr := i_Fstr
    i_intF := i_intF
    i_boolF := i_boolF
    i_strF := i_strF
    i_nonF := i_nonF
    i_listF := i_listF
    i_tupleF := i_tupleF
    i_dictF := i_dictF
    x_init := ⟨_, _, PySem.W.mg_of X G g_Float, ⟨mk_Float, a1, i1, kc_Float⟩, fun_mk (st := s_Float_init) l1 c1 k1, (fun_mk (st := s_Float_init) l1 c1 k1).binds (fun _ _ _ _ _ _ us hl => match us, hl with | [_, _, _, _], _ => rfl)⟩
    x_is_finite := ⟨_, _, ⟨a2, i2, k2⟩, fun_mk (st := s_Float_is_finite) l2 c2 k2, (fun_mk (st := s_Float_is_finite) l2 c2 k2).binds (fun _ _ _ _ _ _ us hl => match us, hl with | [_], _ => rfl)⟩
    x_ratio := ⟨_, _, ⟨a3, i3, k3⟩, fun_mk (st := s_Float_ratio) l3 c3 k3, (fun_mk (st := s_Float_ratio) l3 c3 k3).binds (fun _ _ _ _ _ _ us hl => match us, hl with | [_], _ => rfl)⟩
    x_eq := ⟨_, _, ⟨a4, i4, k4⟩, fun_mk (st := s_Float_eq) l4 c4 k4, (fun_mk (st := s_Float_eq) l4 c4 k4).binds (fun _ _ _ _ _ _ us hl => match us, hl with | [_, _], _ => rfl)⟩
    x_is_plain := ⟨_, _, PySem.W.mg_of X G a5, fun_mk (st := s_is_plain) l5 c5 k5, (fun_mk (st := s_is_plain) l5 c5 k5).binds (fun _ _ _ _ _ _ us hl => match us, hl with | [_], _ => rfl)⟩
    x_reduced := ⟨_, _, PySem.W.mg_of X G a6, fun_mk (st := s_reduced) l6 c6 k6, (fun_mk (st := s_reduced) l6 c6 k6).binds (fun _ _ _ _ _ _ us hl => match us, hl with | [_, _], _ => rfl)⟩
    x_fits := ⟨_, _, PySem.W.mg_of X G a7, fun_mk (st := s_fits) l7 c7 k7, (fun_mk (st := s_fits) l7 c7 k7).binds (fun _ _ _ _ _ _ us hl => match us, hl with | [_, _], _ => rfl)⟩
    x_sign_of := ⟨_, _, PySem.W.mg_of X G a8, fun_mk (st := s_sign_of) l8 c8 k8, (fun_mk (st := s_sign_of) l8 c8 k8).binds (fun _ _ _ _ _ _ us hl => match us, hl with | [_], _ => rfl)⟩
    x_infinity := ⟨_, _, PySem.W.mg_of X G a9, fun_mk (st := s_infinity) l9 c9 k9, (fun_mk (st := s_infinity) l9 c9 k9).binds (fun _ _ _ _ _ _ us hl => match us, hl with | [_], _ => rfl)⟩
    x_nearest := ⟨_, _, PySem.W.mg_of X G a10, fun_mk (st := s_nearest) l10 c10 k10, (fun_mk (st := s_nearest) l10 c10 k10).binds (fun _ _ _ _ _ _ us hl => match us, hl with | [_, _, _], _ => rfl)⟩
    x_to_float := ⟨_, _, PySem.W.mg_of X G a11, fun_mk (st := s_to_float) l11 c11 k11, (fun_mk (st := s_to_float) l11 c11 k11).binds (fun _ _ _ _ _ _ us hl => match us, hl with | [_], _ => rfl)⟩
    x_is_number := ⟨_, _, PySem.W.mg_of X G a12, fun_mk (st := s_is_number) l12 c12 k12, (fun_mk (st := s_is_number) l12 c12 k12).binds (fun _ _ _ _ _ _ us hl => match us, hl with | [_], _ => rfl)⟩
    x_whole_of := ⟨_, _, PySem.W.mg_of X G a13, fun_mk (st := s_whole_of) l13 c13 k13, (fun_mk (st := s_whole_of) l13 c13 k13).binds (fun _ _ _ _ _ _ us hl => match us, hl with | [_], _ => rfl)⟩
    x_well := ⟨_, _, PySem.W.mg_of X G a14, fun_mk (st := s_law_well) l14 c14 k14, (fun_mk (st := s_law_well) l14 c14 k14).binds (fun _ _ _ _ _ _ us hl => match us, hl with | [_], _ => rfl)⟩
    x_draw := ⟨_, _, PySem.W.mg_of X G a15, fun_mk (st := s_law_draw) l15 c15 k15, (fun_mk (st := s_law_draw) l15 c15 k15).binds (fun _ _ _ _ _ _ us hl => match us, hl with | [_, _], _ => rfl)⟩
    x_one := ⟨_, _, PySem.W.mg_of X G a16, fun_mk (st := s_law_one) l16 c16 k16, (fun_mk (st := s_law_one) l16 c16 k16).binds (fun _ _ _ _ _ _ us hl => match us, hl with | [_, _], _ => rfl)⟩
    x_great := ⟨_, _, PySem.W.mg_of X G a17, fun_mk (st := s_law_great) l17 c17 k17, (fun_mk (st := s_law_great) l17 c17 k17).binds (fun _ _ _ _ _ _ us hl => match us, hl with | [_, _], _ => rfl)⟩
    x_finite := ⟨_, _, PySem.W.mg_of X G a18, fun_mk (st := s_law_finite) l18 c18 k18, (fun_mk (st := s_law_finite) l18 c18 k18).binds (fun _ _ _ _ _ _ us hl => match us, hl with | [_], _ => rfl)⟩
    x_odd := ⟨_, _, PySem.W.mg_of X G a19, fun_mk (st := s_law_odd) l19 c19 k19, (fun_mk (st := s_law_odd) l19 c19 k19).binds (fun _ _ _ _ _ _ us hl => match us, hl with | [_, _], _ => rfl)⟩
    x_isf := ⟨_, _, PySem.W.mg_of X G a20, fun_mk (st := s_law_is_float) l20 c20 k20, (fun_mk (st := s_law_is_float) l20 c20 k20).binds (fun _ _ _ _ _ _ us hl => match us, hl with | [_, _], _ => rfl)⟩
    x_said := ⟨_, _, PySem.W.mg_of X G a21, fun_mk (st := s_law_said) l21 c21 k21, (fun_mk (st := s_law_said) l21 c21 k21).binds (fun _ _ _ _ _ _ us hl => match us, hl with | [_, _, _], _ => rfl)⟩
    x_made := ⟨_, _, PySem.W.mg_of X G a22, fun_mk (st := s_law_made_right) l22 c22 k22, (fun_mk (st := s_law_made_right) l22 c22 k22).binds (fun _ _ _ _ _ _ us hl => match us, hl with | [_], _ => rfl)⟩
    x_edges := ⟨_, _, PySem.W.mg_of X G a23, fun_mk (st := s_law_edges_right) l23 c23 k23, (fun_mk (st := s_law_edges_right) l23 c23 k23).binds (fun _ _ _ _ _ _ us hl => match us, hl with | [_], _ => rfl)⟩
    x_refused := ⟨_, _, PySem.W.mg_of X G a24, fun_mk (st := s_law_refused_right) l24 c24 k24, (fun_mk (st := s_law_refused_right) l24 c24 k24).binds (fun _ _ _ _ _ _ us hl => match us, hl with | [], _ => rfl)⟩
    x_law := ⟨_, _, PySem.W.mg_of X G a25, fun_mk (st := s_law) l25 c25 k25, (fun_mk (st := s_law) l25 c25 k25).binds (fun _ _ _ _ _ _ us hl => match us, hl with | [_], _ => rfl)⟩
    q_Float := ⟨ym_Float, ne_Float⟩
    ns_Float := ⟨ns_l, ns_t⟩
    g_InvalidArgument := PySem.W.mg_of X G g_InvalidArgument
    a_InvalidArgument := ⟨th_made, th_over, th_hd, th_sa, th_ex, th_ty, th_kp⟩
    xf_InvalidArgument := ⟨th_ga, th_gg, th_ex, th_hd⟩
    xn_part := xn_part
    e_LuaError := exm_own le_ex le_ic le_ty th_sc
    e_self := th_self
    xc_InvalidArgument := ⟨th_ga, th_gg, th_ex, th_hd, th_yc, y_spec, y_takes, th_ym⟩
    g_LuaError := PySem.W.mg_of X G g_LuaError
    r_LuaError := ⟨le_rd, le_ga, le_ty, le_vi⟩
  }
  exact ⟨PySem.W.fnOf "law" "law" (defArgs s_law) (defBody s_law) (defScope s_law) .none kV25 dc25 pm25 an25 cd25 ct25, fun s v => .of_eq rfl, fun base _ _ => ok_all T (ia_kn T (fun_mk (st := s_InvalidArgument_init) l99 c99 k99) ((fun_mk (st := s_InvalidArgument_init) l99 c99 k99).binds (fun _ _ _ _ _ _ us hl => match us, hl with | [_, _], _ => rfl)) a99 i99) (fun_mk (st := s_law) l25 c25 k25)⟩
end Nu

open PySem PySem.W PyProof.Rows
set_option Elab.async false
set_option maxRecDepth 100000
set_option maxHeartbeats 0
open_top hd01 for PySem.Challenge.rw_walkmade_k01_floats_by_their_parts
theorem PySem.Challenge.cw_walkmade_k01_floats_by_their_parts_holds : PySem.Challenge.rw_walkmade_k01_floats_by_their_parts.Holds :=
  hd01 (by
  k_fill
  refine L2.walk_ofB (l := PySem.Challenge.rw_walkmade_k01_floats_by_their_parts) (n := 63) (k := 20) (x := "script") (CX := fun _ => L2.CX0) (sp := fun w => Nu.spLaw (hd01.heap_39 w.params)) rfl (by decide) rfl ⟨rfl, by decide, by decide⟩ (fun w h Y => PySem.W.kIn_of Y) ?F
    (fun w H a ns h1 h2 _ h4 => ⟨a, ns, rfl, h4, h1, fun z hz => Int.ofNat_le.2 (h2 z hz), fun _ => rfl⟩) (fun _ _ _ _ _ z => z)
  case F =>
    intro w mg fa h KX G hmg
    refine' Nu.fin_mk KX G hmg ?b_isinstance ?b_int ?b_str ?b_bool ?b_abs ?b_max ?b_min ?b_divmod ?b_len ?b_range ?b_NotImplemented ?c_LEAST ?c_MOST ?c_ROOM ?c_LOWEST ?c_TOO_GREAT ?g_Float ?pg_Float ?hd_Float ?po_Float ?sa_Float ?yc_Float ?ym_Float ?n_sign ?n_top ?n_power ?i_Fint ?i_Fbool ?i_Fstr ?i_intF ?i_boolF ?i_strF ?i_nonF ?i_listF ?i_tupleF ?i_dictF ?mk_Float ?kc_Float ?y_spec ?y_takes ?a1 ?l1 ?c1 ?k1 ?i1 ?a2 ?l2 ?c2 ?k2 ?i2 ?a3 ?l3 ?c3 ?k3 ?i3 ?a4 ?l4 ?c4 ?k4 ?i4 ?a5 ?l5 ?c5 ?k5 ?a6 ?l6 ?c6 ?k6 ?a7 ?l7 ?c7 ?k7 ?a8 ?l8 ?c8 ?k8 ?a9 ?l9 ?c9 ?k9 ?a10 ?l10 ?c10 ?k10 ?a11 ?l11 ?c11 ?k11 ?a12 ?l12 ?c12 ?k12 ?a13 ?l13 ?c13 ?k13 ?a14 ?l14 ?c14 ?k14 ?a15 ?l15 ?c15 ?k15 ?a16 ?l16 ?c16 ?k16 ?a17 ?l17 ?c17 ?k17 ?a18 ?l18 ?c18 ?k18 ?a19 ?l19 ?c19 ?k19 ?a20 ?l20 ?c20 ?k20 ?a21 ?l21 ?c21 ?k21 ?a22 ?l22 ?c22 ?k22 ?a23 ?l23 ?c23 ?k23 ?a24 ?l24 ?c24 ?k24 ?a25 ?l25 ?c25 ?k25 ?ne_Float ?ns_l ?ns_t ?g_InvalidArgument ?th_made ?th_over ?th_hd ?th_sa ?th_ex ?th_ty ?th_kp ?th_ga ?th_gg ?xn_part ?th_ic ?th_self ?th_yc ?th_ym ?g_LuaError ?th_sc ?le_ex ?le_ic ?le_rd ?le_ga ?le_ty ?le_vi ?a99 ?l99 ?c99 ?k99 ?i99
    (case b_isinstance => k_is)
    (case b_int => k_is)
    (case b_str => k_is)
    (case b_bool => k_is)
    (case b_abs => k_is)
    (case b_max => k_is)
    (case b_min => k_is)
    (case b_divmod => k_is)
    (case b_len => k_is)
    (case b_range => k_is)
    (case b_NotImplemented => k_is)
    (case c_LEAST => k_is)
    (case c_MOST => k_is)
    (case c_ROOM => k_is)
    (case c_LOWEST => k_is)
    (case c_TOO_GREAT => k_is)
    (case g_Float => k_is)
    (case pg_Float => k_is)
    (case hd_Float => k_is)
    (case po_Float => k_is)
    (case sa_Float => k_is)
    (case yc_Float => k_is)
    (case ym_Float => k_is)
    (case n_sign => k_is)
    (case n_top => k_is)
    (case n_power => k_is)
    (case i_Fint => kit_is)
    (case i_Fbool => kit_is)
    (case i_Fstr => kit_is)
    (case i_intF => kit_is)
    (case i_boolF => kit_is)
    (case i_strF => kit_is)
    (case i_nonF => kit_is)
    (case i_listF => kit_is)
    (case i_tupleF => kit_is)
    (case i_dictF => kit_is)
    (case mk_Float => k_is)
    (case kc_Float => k_is)
    (case y_spec => k_is)
    (case y_takes => k_is)
    (case a1 => k_is)
    (case l1 => k_is)
    (case c1 => k_is)
    (case k1 => k_is)
    (case i1 => k_is)
    (case a2 => k_is)
    (case l2 => k_is)
    (case c2 => k_is)
    (case k2 => k_is)
    (case i2 => k_is)
    (case a3 => k_is)
    (case l3 => k_is)
    (case c3 => k_is)
    (case k3 => k_is)
    (case i3 => k_is)
    (case a4 => k_is)
    (case l4 => k_is)
    (case c4 => k_is)
    (case k4 => k_is)
    (case i4 => k_is)
    (case a5 => k_is)
    (case l5 => k_is)
    (case c5 => k_is)
    (case k5 => k_is)
    (case a6 => k_is)
    (case l6 => k_is)
    (case c6 => k_is)
    (case k6 => k_is)
    (case a7 => k_is)
    (case l7 => k_is)
    (case c7 => k_is)
    (case k7 => k_is)
    (case a8 => k_is)
    (case l8 => k_is)
    (case c8 => k_is)
    (case k8 => k_is)
    (case a9 => k_is)
    (case l9 => k_is)
    (case c9 => k_is)
    (case k9 => k_is)
    (case a10 => k_is)
    (case l10 => k_is)
    (case c10 => k_is)
    (case k10 => k_is)
    (case a11 => k_is)
    (case l11 => k_is)
    (case c11 => k_is)
    (case k11 => k_is)
    (case a12 => k_is)
    (case l12 => k_is)
    (case c12 => k_is)
    (case k12 => k_is)
    (case a13 => k_is)
    (case l13 => k_is)
    (case c13 => k_is)
    (case k13 => k_is)
    (case a14 => k_is)
    (case l14 => k_is)
    (case c14 => k_is)
    (case k14 => k_is)
    (case a15 => k_is)
    (case l15 => k_is)
    (case c15 => k_is)
    (case k15 => k_is)
    (case a16 => k_is)
    (case l16 => k_is)
    (case c16 => k_is)
    (case k16 => k_is)
    (case a17 => k_is)
    (case l17 => k_is)
    (case c17 => k_is)
    (case k17 => k_is)
    (case a18 => k_is)
    (case l18 => k_is)
    (case c18 => k_is)
    (case k18 => k_is)
    (case a19 => k_is)
    (case l19 => k_is)
    (case c19 => k_is)
    (case k19 => k_is)
    (case a20 => k_is)
    (case l20 => k_is)
    (case c20 => k_is)
    (case k20 => k_is)
    (case a21 => k_is)
    (case l21 => k_is)
    (case c21 => k_is)
    (case k21 => k_is)
    (case a22 => k_is)
    (case l22 => k_is)
    (case c22 => k_is)
    (case k22 => k_is)
    (case a23 => k_is)
    (case l23 => k_is)
    (case c23 => k_is)
    (case k23 => k_is)
    (case a24 => k_is)
    (case l24 => k_is)
    (case c24 => k_is)
    (case k24 => k_is)
    (case a25 => k_is)
    (case l25 => k_is)
    (case c25 => k_is)
    (case k25 => k_is)
    (case ne_Float => k_is)
    (case ns_l => k_is)
    (case ns_t => k_is)
    (case g_InvalidArgument => k_is)
    (case th_made => kx_is)
    (case th_over => kx_is)
    (case th_hd => k_is)
    (case th_sa => k_is)
    (case th_ex => k_is)
    (case th_ty => k_is)
    (case th_kp => k_is)
    (case th_ga => k_is)
    (case th_gg => k_is)
    (case xn_part => k_is)
    (case th_ic => k_is)
    (case th_self => first | kit_is | rfl | k_is)
    (case th_yc => k_is)
    (case th_ym => k_is)
    (case g_LuaError => k_is)
    (case th_sc => k_is)
    (case le_ex => k_is)
    (case le_ic => k_is)
    (case le_rd => k_is)
    (case le_ga => k_is)
    (case le_ty => k_is)
    (case le_vi => k_is)
    (case a99 => k_is)
    (case l99 => k_is)
    (case c99 => k_is)
    (case k99 => k_is)
    (case i99 => k_is)
  )
