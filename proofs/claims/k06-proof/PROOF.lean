import PyProof.Rows.All
import Wide.All
import OpenK.AllK
import Wide.FinOn
import HandS.ForMost
import HandS.WideBits
import HandS.IsInst
import HandS.EndBits
import HandS.Codes
import HandS.Defaults
import KE.IntBitsLaws
import HandS.More
import PyProof.InstEq
import HandS.Style
import HandS.OwnEq
import PySem.Challenge.RW_walkmade_k06_texts_of_numbers
import HandS.Text
import HandS.StrMore
import KE.KIntText
import PyProof.StrOps2
import PyProof.Rows.StrCut
import PyProof.NeKinds
import HandS.Flow
import HandS.Walk
import HandS.Iter
import HandS.Steps
import KE.RegKIsAll
import KE.KExcLine
set_option Elab.async false
set_option linter.all false
set_option maxRecDepth 100000
set_option maxHeartbeats 4000000
/-! Readings by steps that look at the head of the goal alone. -/
namespace Rd
open PySem PySem.Spec PyProof.Rows L2

/-! ### defs of the text, packed -/
/-- the def x of the text st stands in the module -/
structure Tx (K : PySem.W.Frag) (mg : Str → Option Value) (x n : Str) (st : Stmt) (ps : List Str) : Prop where
  ex : ∃ f fd, mg x = some (.ref f) ∧ Fun K n n st f fd ∧ Binds K fd ps []
/-- the def x keeps its promise -/
structure Kn (P : Program) (w : World) (K : PySem.W.Frag) (mg : Str → Option Value) (base : Heap) (CX : CXT) (k : Nat) (x : Str) (ps : List Str) (sp : Sp) : Prop where
  ex : ∃ f fd, mg x = some (.ref f) ∧ PySem.W.keepIn K (.ref f) = true ∧ Binds K fd ps [] ∧ FnOk P w K mg base CX k f fd ps sp
/-- a method m of the class at C -/
structure KnM (P : Program) (w : World) (K : PySem.W.Frag) (mg : Str → Option Value) (base : Heap) (CX : CXT) (k : Nat) (C : Addr) (m : Str) (ps : List Str) (sp : Sp) : Prop where
  ex : ∃ f fd, Meth K C m f ∧ Binds K fd ps [] ∧ FnOk P w K mg base CX k f fd ps sp
/-- a class whose __init__ keeps its promise -/
structure KnC (P : Program) (w : World) (K : PySem.W.Frag) (mg : Str → Option Value) (base : Heap) (CX : CXT) (k : Nat) (x : Str) (C : Addr) (ps : List Str) (sp : Sp) : Prop where
  ex : ∃ f fd, mg x = some (.ref C) ∧ Mk K C f ∧ Binds K fd ps [] ∧ FnOk P w K mg base CX k f fd ps sp
/-- a method of the text -/
structure TxM (K : PySem.W.Frag) (C : Addr) (m qual : Str) (st : Stmt) (ps : List Str) : Prop where
  ex : ∃ f fd, Meth K C m f ∧ Fun K m qual st f fd ∧ Binds K fd ps []
structure TxC (K : PySem.W.Frag) (mg : Str → Option Value) (x : Str) (C : Addr) (qual : Str) (st : Stmt) (ps : List Str) : Prop where
  ex : ∃ f fd, mg x = some (.ref C) ∧ Mk K C f ∧ Fun K "__init__" qual st f fd ∧ Binds K fd ps []

section
variable {P : Program} {w : World} {K : PySem.W.Frag} {mg : Str → Option Value} {base : Heap} {CX : CXT} {k : Nat} {x : Str} {ps : List Str} {sp : Sp}
theorem Kn.mono (h : Kn P w K mg base CX k x ps sp) {j : Nat} (hj : k ≤ j) : Kn P w K mg base CX j x ps sp :=
  let ⟨f, fd, a, b, c, d⟩ := h.ex
  ⟨f, fd, a, b, c, d.mono hj⟩
theorem Tx.kn {n : Str} {st : Stmt} (t : Tx K mg x n st ps) (h : ∀ f fd, Fun K n n st f fd → FnOk P w K mg base CX k f fd ps sp) : Kn P w K mg base CX k x ps sp :=
  let ⟨f, fd, a, b, c⟩ := t.ex
  ⟨f, fd, a, b.kp, c, h f fd b⟩
theorem TxM.kn {C : Addr} {m qual : Str} {st : Stmt} (t : TxM K C m qual st ps) (h : ∀ f fd, Fun K m qual st f fd → FnOk P w K mg base CX k f fd ps sp) : KnM P w K mg base CX k C m ps sp :=
  let ⟨f, fd, a, b, c⟩ := t.ex
  ⟨f, fd, a, c, h f fd b⟩
theorem TxC.kn {C : Addr} {qual : Str} {st : Stmt} (t : TxC K mg x C qual st ps) (h : ∀ f fd, Fun K "__init__" qual st f fd → FnOk P w K mg base CX k f fd ps sp) : KnC P w K mg base CX k x C ps sp :=
  let ⟨f, fd, a, b, c, d⟩ := t.ex
  ⟨f, fd, a, b, d, h f fd c⟩
end
section
variable {X : Cx} {k j : Nat} {x : Str} {ps : List Str} {sp : Sp} {p pos apos : Pos} {e o : Expr} {es : List Expr} {t : TA} {ta : TE} {C : Addr} {m : Str}
/-- f(e, ..) -/
theorem pk (h : Kn X.prog X.w X.K X.mg X.base CX0 k x ps sp) (hr : Room j X.A) (ha : PA X (e :: es) t) (hj : k ≤ j := by decide) (hg : Gl X x := by rfl) (hdb : (x == ("__debug__" : Str)) = false := by decide)
    (he : starEach (e :: es) X.env = (false, eval e X.env) :: starEach es X.env := by rfl) (hpl : (backTo pos (starEach es X.env)).any (·.1) = false := by rfl) : PE X (.Call (.Name x p) (e :: es) [] pos) (tCall sp [] E0 t) := by
  obtain ⟨f, fd, a, b, c, d⟩ := h.ex
  exact pe_call d (hr.mono hj) hg a b c .nil pass0 ha hdb he hpl
theorem pk0 (h : Kn X.prog X.w X.K X.mg X.base CX0 k x ps sp) (hr : Room j X.A) (hj : k ≤ j := by decide) (hg : Gl X x := by rfl) (hdb : (x == ("__debug__" : Str)) = false := by decide) : PE X (.Call (.Name x p) [] [] pos) (tCall sp [] E0 tNil) := by
  obtain ⟨f, fd, a, b, c, d⟩ := h.ex
  exact pe_call0 d (hr.mono hj) hg a b c .nil pass0 hdb
/-- C(e, ..) -/
theorem pkC (h : KnC X.prog X.w X.K X.mg X.base CX0 k x C ps sp) (hr : Room j X.A) (ha : PA X (e :: es) t) (hj : k + 1 ≤ j := by decide) (hg : Gl X x := by rfl) (hdb : (x == ("__debug__" : Str)) = false := by decide)
    (he : starEach (e :: es) X.env = (false, eval e X.env) :: starEach es X.env := by rfl) (hpl : (backTo pos (starEach es X.env)).any (·.1) = false := by rfl) : PE X (.Call (.Name x p) (e :: es) [] pos) (tMake C sp [] E0 t) := by
  obtain ⟨f, fd, a, b, c, d⟩ := h.ex
  exact pe_make b d (hr.mono hj) hg a c .nil pass0 ha hdb he hpl
/-- o.m() -/
theorem pkM0 (h : KnM X.prog X.w X.K X.mg X.base CX0 k C m ps sp) (cl : Cls X.K C) (hr : Room j X.A) (ho : PE X o ta) {pl : Sem Bool}
    (ht : eval (.Call (.Attribute o m apos) [] [] pos) X.env = (do
      let ov ← eval o X.env
      standAt apos.atName
      let (f, first) ← holding [ov] (getMethod ov m pl)
      callWith pos f first (backTo pos (starEach [] X.env)) (backToKw pos (keywordEach [] X.env)))) (hj : k ≤ j := by decide) :
    PE X (.Call (.Attribute o m apos) [] [] pos) (tMeth C m sp [] E0 ta tNil) := by
  obtain ⟨f, fd, a, b, d⟩ := h.ex
  exact pe_meth0 ho cl a d (hr.mono hj) b .nil pass0 ht
/-- a class or a constant of the module, as a value -/
theorem pg (x : Str) {v : V} {u : Value} (hm : X.mg x = some u) (r : RelV v u) (hg : Gl X x := by rfl) (hd : (x == ("__debug__" : Str)) = false := by decide) : PE X (.Name x pos) (tC v) := pe_glob hg hm r hd
end
/-- v is .int, .str, .non, .bl -/
theorem rty (n : String) : RelV (.ty n) (.type n) := rfl
theorem rref (a : Addr) : RelV (.ref a) (.ref a) := rfl

/-! ### what is wanted, by the head of the goal -/
section
variable {σ : L2.St} {H : Hp} {Q : VK} {ta tb te : TE} {x y v : V} {r : R2} {K : PySem.W.Frag}
theorem w_var {i : Nat} (h : σ[i]? = some (some v)) (q : Q v H) : tVar i σ H Q := ⟨v, h, q⟩
theorem w_c (q : Q v H) : tC v σ H Q := q
theorem w_op (h : ta σ H fun x H1 => tb σ H1 fun y H2 => r x y H2 Q) : tOp r ta tb σ H Q := h
theorem w_un {r : V → Hp → VK → Prop} (h : ta σ H fun x H1 => r x H1 Q) : tUn r ta σ H Q := h
theorem w_I0 {g : Int → Int → V} {i j : Int} (q : Q (g i j) H) : rI0 g (.int i) (.int j) H Q := ⟨i, j, rfl, rfl, q⟩
theorem w_I {C : Int → Int → Prop} {g : Int → Int → V} {i j : Int} (c : C i j) (q : Q (g i j) H) : rI C g (.int i) (.int j) H Q := ⟨i, j, rfl, rfl, c, q⟩
theorem w_U {g : Int → V} {i : Int} (q : Q (g i) H) : rU g (.int i) H Q := ⟨i, rfl, q⟩
theorem w_eq (s : scal x y = true) (q : Q (.bl (decide (x = y))) H) : rEq x y H Q := ⟨s, q⟩
theorem w_ne (s : scal x y = true) (q : Q (.bl (!decide (x = y))) H) : rNe x y H Q := ⟨s, q⟩
theorem w_bits (h : te σ H fun x H1 => ∃ i, x = .int i ∧ Q (.int (Builtin.Int.intBits i : Nat)) H1) : tBits te σ H Q := h
theorem w_bitsI {R : Int → Prop} {i : Int} (q : R i) : ∃ i', V.int i = .int i' ∧ R i' := ⟨i, rfl, q⟩
def TupK (xs : List V) (H : Hp) (Q : VK) : Prop := xs.length ≤ sizeLine ∧ ∀ p, H p = none → Q (.ref p) (upd H p (.tup xs))
def LstK (xs : List V) (H : Hp) (Q : VK) : Prop := xs.length ≤ sizeLine ∧ ∀ p, H p = none → Q (.ref p) (upd H p (.lst xs))
theorem w_tup {t : TA} (h : t σ H fun xs H1 => TupK xs H1 Q) : tTup t σ H Q := h
theorem w_lst {t : TA} (h : t σ H fun xs H1 => LstK xs H1 Q) : tLst t σ H Q := h
theorem w_nil {Q : List V → Hp → Prop} (q : Q [] H) : tNil σ H Q := q
theorem w_cons {ta : TE} {tr : TA} {Q : List V → Hp → Prop} (h : ta σ H fun x H1 => tr σ H1 fun xs H2 => Q (x :: xs) H2) : tCons ta tr σ H Q := h
theorem w_fld {f : Str} (h : ta σ H fun x H1 => ∃ a C dx fs v, x = .ref a ∧ H1 a = some (.ins C dx fs) ∧ Cls K C ∧ NoAttr K C f ∧ fs.lookup f = some v ∧ Q v H1) : tFld K ta f σ H Q := h
theorem w_fldI {R : V → Prop} {f : Str} {a C dx : Addr} {fs : List (Str × V)} (ho : H a = some (.ins C dx fs)) (c : Cls K C) (n : NoAttr K C f) (l : fs.lookup f = some v) (q : R v) :
    ∃ a' C dx fs v, V.ref a = .ref a' ∧ H a' = some (.ins C dx fs) ∧ Cls K C ∧ NoAttr K C f ∧ fs.lookup f = some v ∧ R v := ⟨a, C, dx, fs, v, rfl, ho, c, n, l, q⟩
theorem w_sfI {R : Addr → Addr → List (Str × V) → Addr → Prop} {f : Str} {a C dx : Addr} {fs : List (Str × V)} (ho : H a = some (.ins C dx fs)) (c : Cls K C) (n : NoAttr K C f) (l : fs.length < 1000) (q : R a dx fs C) :
    ∃ a' C dx fs, V.ref a = .ref a' ∧ H a' = some (.ins C dx fs) ∧ Cls K C ∧ NoAttr K C f ∧ fs.length < 1000 ∧ R a' dx fs C := ⟨a, C, dx, fs, rfl, ho, c, n, l, q⟩
theorem w_call {sp : Sp} {dvs : List V} {E : XK} {t : TA} (h : t σ H fun vs H1 => sp (vs ++ dvs) H1 Q E) : tCall sp dvs E t σ H Q := h
def MakeK (C : Addr) (sp : Sp) (vs : List V) (H1 : Hp) (Q : VK) (E : XK) : Prop := ∀ x dx, H1 x = none → H1 dx = none → dx ≠ x → sp (.ref x :: (vs ++ [])) (upd (upd H1 dx (.own x)) x (.ins C dx [])) (fun v H2 => v = .non ∧ Q (.ref x) H2) E
theorem w_make {C : Addr} {sp : Sp} {E : XK} {t : TA} (h : t σ H fun vs H1 => MakeK C sp vs H1 Q E) : tMake C sp [] E t σ H Q := h
theorem w_cb {r : List V → Hp → VK → Prop} {t : TA} (h : t σ H fun vs H1 => r vs H1 Q) : tCB r t σ H Q := h
theorem w_bl {R : Bool → Prop} {k : Bool} (q : R k) : ∃ k', V.bl k = .bl k' ∧ R k' := ⟨k, rfl, q⟩
theorem w_test {Q : Bool → Hp → Prop} (h : te σ H fun x H' => ∃ k, x = .bl k ∧ Q k H') : tTest te σ H Q := h
theorem w_B {Q : Bool → Hp → Prop} (h : te σ H fun x H' => ∃ k, x = .bl k ∧ Q k H') : tB te σ H Q := h
theorem w_andV (h : ta σ H fun x H1 => ∃ c, x = .bl c ∧ if c = true then tb σ H1 Q else Q (.bl false) H1) : tAndV ta tb σ H Q := h
theorem w_orV (h : ta σ H fun x H1 => ∃ c, x = .bl c ∧ if c = true then Q (.bl true) H1 else tb σ H1 Q) : tOrV ta tb σ H Q := h
theorem w_notV (h : ta σ H fun x H1 => ∃ c, x = .bl c ∧ Q (.bl (!c)) H1) : tNotV ta σ H Q := h
theorem w_and {t u : TT} {Q : Bool → Hp → Prop} (h : t σ H fun c H1 => if c = true then u σ H1 Q else Q false H1) : tAnd t u σ H Q := h
theorem w_or {t u : TT} {Q : Bool → Hp → Prop} (h : t σ H fun c H1 => if c = true then Q true H1 else u σ H1 Q) : tOr t u σ H Q := h
theorem w_not {t : TT} {Q : Bool → Hp → Prop} (h : t σ H fun c H1 => Q (!c) H1) : tNot t σ H Q := h
theorem w_if {t : TT} (h : t σ H fun c H1 => if c = true then ta σ H1 Q else tb σ H1 Q) : tIf t ta tb σ H Q := h
theorem w_isi {x c : V} {t u : Value} {b : Bool} (k : ClsV c u) (ty : TyX K H x t) (e : PySem.W.kitOne K t u = some b) (q : Q (.bl b) H) : rIsi K [x, c] H Q := ⟨x, c, t, u, b, rfl, k, ty, e, q⟩
/-! statements -/
variable {D : Ends} {t u : TS} {n bk ct : L2.St → Hp → Prop} {rt : VK}
theorem w_nx (q : n σ H) : (Ends.mk n rt bk ct).nx σ H := q
theorem w_rt (q : rt v H) : (Ends.mk n rt bk ct).rt v H := q
theorem w_bk (q : bk σ H) : (Ends.mk n rt bk ct).bk σ H := q
theorem w_ct (q : ct σ H) : (Ends.mk n rt bk ct).ct σ H := q
theorem w_seq (h : t { D with nx := u D } σ H) : tSeq t u D σ H := h
theorem w_cut {Mid : L2.St → Hp → Prop} (h1 : t { D with nx := Mid } σ H) (h2 : ∀ σ' H', Mid σ' H' → u D σ' H') : C8.tCut t u D σ H := ⟨Mid, h1, h2⟩
theorem w_next (h : D.nx σ H) : tNext D σ H := h
theorem w_brk (h : D.bk σ H) : tBreak D σ H := h
theorem w_cont (h : D.ct σ H) : tCont D σ H := h
theorem w_ret (h : te σ H D.rt) : tRet te D σ H := h
theorem w_ifS {c : TT} (h : c σ H fun b H1 => if b = true then t D σ H1 else u D σ H1) : tIfS c t u D σ H := h
theorem w_asg {g : TG} (h : te σ H fun x H1 => g x σ H1 D.nx) : tAsg te g D σ H := h
theorem w_name {i : Nat} {Q : L2.St → Hp → Prop} (h : Q (σ.set i (some v)) H) : gName i v σ H Q := h
theorem w_par {i j : Nat} {ta : TA} (h : ta σ H fun vs H1 => ∃ v w, vs = [v, w] ∧ D.nx ((σ.set i (some v)).set j (some w)) H1) : tPar i j ta D σ H := h
theorem w_parI {R : V → V → Prop} {v w : V} (h : R v w) : ∃ v' w', [v, w] = [v', w'] ∧ R v' w' := ⟨v, w, rfl, h⟩
theorem w_ii {R : Int → Int → Prop} {a b : Int} (h : R a b) : ∃ i j, [V.int a, V.int b] = [V.int i, V.int j] ∧ R i j := ⟨a, b, rfl, h⟩
theorem w_i1 {R : Int → Prop} {a : Int} (h : R a) : ∃ i, [V.int a] = [V.int i] ∧ R i := ⟨a, rfl, h⟩
theorem w_drop (h : te σ H fun _ H1 => D.nx σ H1) : tDrop te D σ H := h
theorem w_sFld {tv : TE} {f : Str} (h : tv σ H fun y H1 => ta σ H1 fun x H2 => ∃ a C dx fs, x = .ref a ∧ H2 a = some (.ins C dx fs) ∧ Cls K C ∧ NoAttr K C f ∧ fs.length < 1000 ∧ D.nx σ (upd H2 a (.ins C dx (putF f y fs)))) : sFld K ta tv f D σ H := h
theorem iT {A B : Prop} (h : A) : if true = true then A else B := by rw [if_pos rfl]; exact h
theorem iF {A B : Prop} (h : B) : if false = true then A else B := by rw [if_neg Bool.false_ne_true]; exact h
theorem iD {c : Prop} [Decidable c] {A B : Prop} (h1 : c → A) (h2 : ¬ c → B) : if decide c = true then A else B := by
  by_cases h : c
  · rw [decide_eq_true h]; exact iT (h1 h)
  · rw [decide_eq_false h]; exact iF (h2 h)
theorem iN {c : Prop} [Decidable c] {A B : Prop} (h1 : ¬ c → A) (h2 : c → B) : if (!decide c) = true then A else B := by
  by_cases h : c
  · rw [decide_eq_true h]; exact iF (h2 h)
  · rw [decide_eq_false h]; exact iT (h1 h)
theorem iB {b : Bool} {A B : Prop} (h1 : b = true → A) (h2 : b = false → B) : if b = true then A else B := by
  cases b with
  | true => exact iT (h1 rfl)
  | false => exact iF (h2 rfl)
end
end Rd
open Rd L2 in
section
local macro_rules | `(tactic| walk_at "rd") => `(tactic| first
  | with_reducible refine w_var rfl ?_
  | with_reducible refine w_c ?_
  | with_reducible refine w_op ?_)
end

set_option Elab.async false
set_option linter.all false
set_option maxRecDepth 100000
set_option maxHeartbeats 4000000
/-! The numbers of the program as plain functions. -/
namespace Nu
open PySem L2
abbrev bits (n : Int) : Int := (Builtin.Int.intBits n : Nat)
theorem bits_nn (n : Int) : 0 ≤ bits n := Int.natCast_nonneg _
theorem bits_le {n : Int} {k : Nat} : bits n ≤ k ↔ n.natAbs < 2 ^ k := by
  unfold bits
  rw [Int.ofNat_le]
  exact PySem.intBits_le_iff
theorem bits_zero : bits 0 = 0 := rfl
theorem pow_pos2 (k : Nat) : (0 : Int) < 2 ^ k := Int.pow_pos (by decide)
theorem pow_mono {a b : Nat} (h : a ≤ b) : (2 : Int) ^ a ≤ 2 ^ b := by
  have e : b = a + (b - a) := by omega
  rw [e, Int.pow_add]
  have h1 := pow_pos2 a
  have h2 := pow_pos2 (b - a)
  have := Int.mul_le_mul_of_nonneg_left (show (1 : Int) ≤ 2 ^ (b - a) by omega) (Int.le_of_lt h1)
  omega
theorem pow_cast (k : Nat) : ((2 ^ k : Nat) : Int) = 2 ^ k := by simp
theorem bits_lt_pow {n : Int} (h : 0 ≤ n) {k : Nat} : bits n ≤ k ↔ n < 2 ^ k := by
  rw [bits_le]
  have e := pow_cast k
  omega
/-- 2 ^ (bits n - 1) ≤ n < 2 ^ bits n -/
theorem lt_pow_bits {n : Int} (h : 0 ≤ n) : n < 2 ^ (Builtin.Int.intBits n) := (bits_lt_pow h).1 (Int.le_refl _)
theorem pow_bits_le {n : Int} (h : 0 < n) : (2 : Int) ^ (Builtin.Int.intBits n - 1) ≤ n := by
  have hb : Builtin.Int.intBits n ≠ 0 := by
    intro e
    have := lt_pow_bits (n := n) (by omega)
    rw [e] at this
    simp at this
    omega
  have h2 : ¬ bits n ≤ ((Builtin.Int.intBits n - 1 : Nat) : Int) := by
    unfold bits
    omega
  rw [bits_lt_pow (by omega)] at h2
  omega
theorem bits_pos {n : Int} (h : 0 < n) : 0 < Builtin.Int.intBits n := by
  have := lt_pow_bits (n := n) (by omega)
  rcases Nat.eq_zero_or_pos (Builtin.Int.intBits n) with e | e
  · rw [e] at this; simp at this; omega
  · exact e
/-- bits by its bounds -/
theorem bits_eq {n : Int} {k : Nat} (h1 : (2 : Int) ^ k ≤ n) (h2 : n < 2 ^ (k + 1)) : bits n = k + 1 := by
  have p := pow_pos2 k
  have a : bits n ≤ ((k + 1 : Nat) : Int) := (bits_lt_pow (by omega)).2 h2
  have b : ¬ bits n ≤ ((k : Nat) : Int) := by rw [bits_lt_pow (by omega)]; omega
  omega
theorem bits_shift {n : Int} (h : 0 < n) (k : Nat) : bits (n * 2 ^ k) = bits n + k := by
  have hp := bits_pos h
  have h1 := pow_bits_le h
  have h2 := lt_pow_bits (n := n) (by omega)
  have pk := pow_pos2 k
  have e : Builtin.Int.intBits n - 1 + 1 = Builtin.Int.intBits n := by omega
  have a1 : (2 : Int) ^ (Builtin.Int.intBits n - 1 + k) ≤ n * 2 ^ k := by
    rw [Int.pow_add]
    exact Int.mul_le_mul_of_nonneg_right h1 (by omega)
  have a2 : n * 2 ^ k < 2 ^ (Builtin.Int.intBits n - 1 + k + 1) := by
    rw [show Builtin.Int.intBits n - 1 + k + 1 = Builtin.Int.intBits n + k by omega, Int.pow_add]
    exact Int.mul_lt_mul_of_pos_right h2 pk
  rw [bits_eq a1 a2]
  unfold bits
  omega
theorem bits_mono {a b : Int} (h0 : 0 ≤ a) (h : a ≤ b) : bits a ≤ bits b := by
  have := lt_pow_bits (n := b) (by omega)
  exact (bits_lt_pow h0).2 (by omega)

/-! ### the lowest bit -/
theorem nat_low (k j : Nat) : (2 ^ k * (2 * j + 1)) &&& (2 ^ k * (2 * j + 1) - 1) = 2 ^ (k + 1) * j := by
  have hp : 0 < 2 ^ k := Nat.two_pow_pos k
  have e1 : 2 ^ k * (2 * j + 1) = 2 ^ (k + 1) * j + 2 ^ k := by
    rw [Nat.pow_succ, Nat.mul_add, Nat.mul_one, Nat.mul_assoc]
  have e2 : 2 ^ k * (2 * j + 1) - 1 = 2 ^ (k + 1) * j + (2 ^ k - 1) := by rw [e1]; omega
  have l1 : 2 ^ k < 2 ^ (k + 1) := by rw [Nat.pow_succ]; omega
  have l2 : 2 ^ k - 1 < 2 ^ (k + 1) := by omega
  rw [e2]
  conv => lhs; lhs; rw [e1]
  apply Nat.eq_of_testBit_eq
  intro i
  rw [Nat.testBit_and, Nat.testBit_two_pow_mul_add _ l1, Nat.testBit_two_pow_mul_add _ l2]
  have e3 : 2 ^ (k + 1) * j = 2 ^ (k + 1) * j + 0 := rfl
  rw [e3, Nat.testBit_two_pow_mul_add _ (Nat.two_pow_pos _)]
  by_cases hi : i < k + 1
  · rw [if_pos hi, if_pos hi, if_pos hi, Nat.testBit_two_pow, Nat.testBit_two_pow_sub_one, Nat.zero_testBit]
    by_cases hk : k = i
    · subst hk; simp
    · simp [hk]
  · rw [if_neg hi, if_neg hi, if_neg hi, Bool.and_self]
theorem nat_odd : ∀ n : Nat, 0 < n → ∃ k j : Nat, n = 2 ^ k * (2 * j + 1) := by
  intro n
  induction n using Nat.strongRecOn with
  | ind n ih =>
    intro h
    by_cases c : n % 2 = 1
    · exact ⟨0, n / 2, by simp; omega⟩
    · obtain ⟨k, j, e⟩ := ih (n / 2) (by omega) (by omega)
      refine ⟨k + 1, j, ?_⟩
      have e2 : n = 2 * (n / 2) := by omega
      rw [e2, e, Nat.pow_succ]
      rw [Nat.mul_comm (2 ^ k) 2, Nat.mul_assoc]
/-- what (top & -top).bit_length() - 1 is -/
def less (t : Int) : Int := bits (Builtin.bitAnd t (0 - t)) - 1
theorem less_spec {t : Int} (h : 0 < t) : ∃ (k : Nat) (m : Int), 0 ≤ m ∧ t = 2 ^ k * (2 * m + 1) ∧ less t = k := by
  obtain ⟨n, rfl⟩ := Int.eq_ofNat_of_zero_le (Int.le_of_lt h)
  obtain ⟨k, j, e⟩ := nat_odd n (by omega)
  have hp : 0 < 2 ^ k := Nat.two_pow_pos k
  refine ⟨k, j, Int.natCast_nonneg _, ?_, ?_⟩
  · rw [e]
    simp
  · have a : decide (0 ≤ (n : Int)) = true := decide_eq_true (Int.natCast_nonneg _)
    have b : decide (0 ≤ (0 - (n : Int))) = false := decide_eq_false (by omega)
    have c : Builtin.bitNot (0 - (n : Int)) = ((n - 1 : Nat) : Int) := by
      show -(0 - (n : Int)) - 1 = _
      omega
    have d : Builtin.bitAnd (n : Int) (0 - (n : Int)) = 2 ^ k := by
      unfold Builtin.bitAnd
      rw [a, b]
      show (n : Int) - ((((n : Int).toNat &&& (Builtin.bitNot (0 - (n : Int))).toNat : Nat)) : Int) = 2 ^ k
      rw [c, Int.toNat_natCast, Int.toNat_natCast, e, nat_low]
      have e1 : 2 ^ k * (2 * j + 1) = 2 ^ (k + 1) * j + 2 ^ k := by
        rw [Nat.pow_succ, Nat.mul_add, Nat.mul_one, Nat.mul_assoc]
      rw [e1, ← pow_cast k]
      omega
    unfold less
    rw [d, bits_eq (k := k) (Int.le_refl _) (by rw [Int.pow_succ]; have := pow_pos2 k; omega)]
    omega
/-- top and power with an odd top -/
def red (t p : Int) : Int × Int := if t = 0 then (0, 0) else (t / 2 ^ (less t).toNat, p + less t)
theorem red_zero (p : Int) : red 0 p = (0, 0) := if_pos rfl
theorem red_spec {t : Int} (h : 0 < t) (p : Int) : ∃ (k : Nat) (m : Int), 0 ≤ m ∧ t = 2 ^ k * (2 * m + 1) ∧ red t p = (2 * m + 1, p + k) := by
  obtain ⟨k, m, hm, e, l⟩ := less_spec h
  refine ⟨k, m, hm, e, ?_⟩
  unfold red
  rw [if_neg (by omega), l, Int.toNat_natCast]
  have : t / 2 ^ k = 2 * m + 1 := by
    rw [e]
    exact Int.mul_ediv_cancel_left _ (by have := pow_pos2 k; omega)
  rw [this]
def fitsB (t p : Int) : Bool := (decide (t < 9007199254740992) && (decide (-1074 ≤ p) && decide (bits t + p ≤ 1024))) || decide (t = 0)
theorem pow53 : (9007199254740992 : Int) = 2 ^ 53 := by decide
/-- what nearest hands to Float fits -/
theorem red_fits {t p : Int} (h0 : 0 ≤ t) (h1 : t ≤ 9007199254740992) (h2 : -1074 ≤ p) (h3 : bits t + p ≤ 1024) : fitsB (red t p).1 (red t p).2 = true := by
  by_cases z : t = 0
  · subst z; rw [red_zero]; decide
  · obtain ⟨k, m, hm, e, r⟩ := red_spec (t := t) (by omega) p
    rw [r]
    have pk := pow_pos2 k
    have hlt : 2 * m + 1 < 9007199254740992 := by
      by_cases k0 : k = 0
      · subst k0
        simp at e
        omega
      · have p2 : (2 : Int) ≤ 2 ^ k := by
          obtain ⟨j, rfl⟩ : ∃ j, k = j + 1 := ⟨k - 1, by omega⟩
          rw [Int.pow_succ]
          have := pow_pos2 j
          omega
        have : 2 * (2 * m + 1) ≤ 2 ^ k * (2 * m + 1) := Int.mul_le_mul_of_nonneg_right p2 (by omega)
        omega
    have hb : bits t = bits (2 * m + 1) + k := by
      rw [e, Int.mul_comm]
      exact bits_shift (by omega) k
    unfold fitsB
    rw [decide_eq_true hlt, decide_eq_true (show -1074 ≤ p + (k : Int) by omega), decide_eq_true (show bits (2 * m + 1) + (p + (k : Int)) ≤ 1024 by omega)]
    rfl
end Nu

set_option Elab.async false
set_option linter.all false
set_option maxRecDepth 100000
set_option maxHeartbeats 4000000
set_option autoImplicit false
namespace Nu
open PySem L2
def pw (t b : Int) : Int := if -1074 > bits t - bits b - 53 then -1074 else bits t - bits b - 53
def t1 (t b : Int) : Int := if pw t b < 0 then t * 2 ^ (0 - pw t b).toNat else t
def b1 (t b : Int) : Int := if pw t b < 0 then b else b * 2 ^ (pw t b).toNat
def b2 (t b : Int) : Int := if 9007199254740992 ≤ t1 t b / b1 t b then b1 t b * 2 ^ (1 : Int).toNat else b1 t b
def p2 (t b : Int) : Int := if 9007199254740992 ≤ t1 t b / b1 t b then pw t b + 1 else pw t b
def wq (t b : Int) : Int := t1 t b / b2 t b
def wr (t b : Int) : Int := t1 t b % b2 t b
def goesUp (t b : Int) : Prop := b2 t b < 2 * wr t b ∨ (2 * wr t b = b2 t b ∧ Builtin.bitAnd (wq t b) 1 = 1)
instance (t b : Int) : Decidable (goesUp t b) := inferInstanceAs (Decidable (_ ∨ _))
def wh (t b : Int) : Int := if goesUp t b then wq t b + 1 else wq t b
section
variable {t b : Int}
theorem pw_ge : -1074 ≤ pw t b := by unfold pw; split <;> omega
theorem pw_ge2 : bits t - bits b - 53 ≤ pw t b := by unfold pw; split <;> omega
theorem pw_le (h : bits t ≤ 2200) : pw t b ≤ 2200 := by
  have := bits_nn b
  unfold pw; split <;> omega
theorem bits_mul_pow {n : Int} (h : 0 ≤ n) (k : Nat) : bits (n * 2 ^ k) ≤ bits n + k := by
  by_cases z : n = 0
  · subst z; rw [Int.zero_mul, bits_zero]; omega
  · rw [bits_shift (by omega)]; omega
theorem t1_nn (h : 0 ≤ t) : 0 ≤ t1 t b := by
  unfold t1
  split
  · exact Int.mul_nonneg h (Int.le_of_lt (pow_pos2 _))
  · exact h
theorem b1_pos (h : 0 < b) : 0 < b1 t b := by
  unfold b1
  split
  · exact h
  · exact Int.mul_pos h (pow_pos2 _)
theorem b2_pos (h : 0 < b) : 0 < b2 t b := by
  have := b1_pos (t := t) h
  unfold b2
  split
  · exact Int.mul_pos this (pow_pos2 _)
  · exact this
theorem t1_bits (h : 0 ≤ t) (hb : bits t ≤ 2200) : bits (t1 t b) ≤ 3274 := by
  unfold t1
  split
  · have := bits_mul_pow h (0 - pw t b).toNat
    have := pw_ge (t := t) (b := b)
    omega
  · omega
theorem b1_bits (h : 0 < b) (ht : bits t ≤ 2200) (hb : bits b ≤ 2200) : bits (b1 t b) ≤ 4400 := by
  unfold b1
  split
  · omega
  · have := bits_mul_pow (n := b) (by omega) (pw t b).toNat
    have := pw_le (t := t) (b := b) ht
    omega
theorem b2_bits (h : 0 < b) (ht : bits t ≤ 2200) (hb : bits b ≤ 2200) : bits (b2 t b) ≤ 4401 := by
  have h1 := b1_bits h ht hb
  unfold b2
  split
  · have := bits_mul_pow (n := b1 t b) (by have := b1_pos (t := t) h; omega) (1 : Int).toNat
    have e : (((1 : Int).toNat : Nat) : Int) = 1 := rfl
    omega
  · omega
theorem p2_ge : -1074 ≤ p2 t b := by
  have := pw_ge (t := t) (b := b)
  unfold p2
  split <;> omega
/-- the quotient ahead of rounding has at most 54 bits -/
theorem t1_lt (ht : 0 ≤ t) (hb : 0 < b) : t1 t b < 18014398509481984 * b1 t b := by
  have h1 := lt_pow_bits (n := t) ht
  have h2 := pow_bits_le hb
  have hm := bits_pos hb
  have g := pw_ge2 (t := t) (b := b)
  have e54 : (18014398509481984 : Int) = 2 ^ 54 := by decide
  rw [e54]
  unfold bits at g
  generalize hn : Builtin.Int.intBits t = n at *
  generalize hk : Builtin.Int.intBits b = m at *
  unfold t1 b1
  split
  · rename_i c
    have a1 : t * 2 ^ (0 - pw t b).toNat < 2 ^ n * 2 ^ (0 - pw t b).toNat := Int.mul_lt_mul_of_pos_right h1 (pow_pos2 _)
    rw [← Int.pow_add] at a1
    have a2 : (2 : Int) ^ (n + (0 - pw t b).toNat) ≤ 2 ^ (54 + (m - 1)) := pow_mono (by omega)
    have a3 : (2 : Int) ^ (54 + (m - 1)) ≤ 2 ^ 54 * b := by
      rw [Int.pow_add]
      exact Int.mul_le_mul_of_nonneg_left h2 (by decide)
    omega
  · rename_i c
    have a2 : (2 : Int) ^ n ≤ 2 ^ (54 + (m - 1) + (pw t b).toNat) := pow_mono (by omega)
    have a3 : (2 : Int) ^ (54 + (m - 1) + (pw t b).toNat) ≤ 2 ^ 54 * (b * 2 ^ (pw t b).toNat) := by
      rw [Int.pow_add, Int.pow_add, Int.mul_assoc]
      exact Int.mul_le_mul_of_nonneg_left (Int.mul_le_mul_of_nonneg_right h2 (Int.le_of_lt (pow_pos2 _))) (by decide)
    omega
theorem wq_nn (ht : 0 ≤ t) (hb : 0 < b) : 0 ≤ wq t b := Int.ediv_nonneg (t1_nn ht) (Int.le_of_lt (b2_pos hb))
theorem wq_lt (ht : 0 ≤ t) (hb : 0 < b) : wq t b < 9007199254740992 := by
  have h := t1_lt ht hb
  have h1 := b1_pos (t := t) hb
  unfold wq b2
  split
  · have e : b1 t b * 2 ^ (1 : Int).toNat = 2 * b1 t b := by
      show b1 t b * 2 = _
      omega
    rw [e]
    refine Int.ediv_lt_of_lt_mul (by omega) ?_
    omega
  · omega
theorem wr_nn (hb : 0 < b) : 0 ≤ wr t b := Int.emod_nonneg _ (by have := b2_pos (t := t) hb; omega)
theorem wr_lt (hb : 0 < b) : wr t b < b2 t b := Int.emod_lt_of_pos _ (b2_pos hb)
theorem wh_nn (ht : 0 ≤ t) (hb : 0 < b) : 0 ≤ wh t b := by
  have := wq_nn ht hb
  unfold wh; split <;> omega
theorem wh_le (ht : 0 ≤ t) (hb : 0 < b) : wh t b ≤ 9007199254740992 := by
  have := wq_lt ht hb
  unfold wh; split <;> omega
theorem wh_fits (ht : 0 ≤ t) (hb : 0 < b) (h : bits (wh t b) + p2 t b ≤ 1024) : fitsB (red (wh t b) (p2 t b)).1 (red (wh t b) (p2 t b)).2 = true :=
  red_fits (wh_nn ht hb) (wh_le ht hb) p2_ge h
end
end Nu

set_option Elab.async false
set_option linter.all false
set_option maxRecDepth 100000
set_option maxHeartbeats 4000000
set_option autoImplicit false
/-! The float that nearest tells is the nearest one. -/
namespace Nu
open PySem L2
/-- 2 ^ (e + 3000) -/
def G (e : Int) : Int := 2 ^ (e + 3000).toNat
theorem G_pos (e : Int) : 0 < G e := pow_pos2 _
theorem G_add {e : Int} (k : Nat) (h : -3000 ≤ e) : G (e + k) = 2 ^ k * G e := by
  unfold G
  rw [← Int.pow_add]
  congr 1
  omega
theorem G_succ {e : Int} (h : -3000 ≤ e) : G (e + 1) = 2 * G e := G_add 1 h
theorem G_pred {e : Int} (h : -2999 ≤ e) : G e = 2 * G (e - 1) := by
  have := G_succ (e := e - 1) (by omega)
  rwa [show e - 1 + 1 = e by omega] at this
theorem G_le {e f : Int} (h : e ≤ f) : G e ≤ G f := pow_mono (by omega)
/-- a number times a power of two, as a fraction -/
def sc (n e : Int) : Int × Int := if 0 ≤ e then (n * 2 ^ e.toNat, 1) else (n, 2 ^ (0 - e).toNat)
theorem sc_cmp (t b n e : Int) (h : -3000 ≤ e) : ∃ F, 0 < F ∧ (t * (sc n e).2 - (sc n e).1 * b) * F = t * G 0 - n * (G e * b) := by
  unfold sc
  split
  · refine ⟨G 0, G_pos 0, ?_⟩
    have e1 : G e = 2 ^ e.toNat * G 0 := by
      have := G_add (e := 0) e.toNat (by decide)
      rwa [show (0 : Int) + (e.toNat : Int) = e by omega] at this
    show (t * 1 - n * 2 ^ e.toNat * b) * G 0 = _
    rw [e1]
    generalize (2 : Int) ^ e.toNat = a
    generalize G 0 = u
    rw [Int.sub_mul, Int.mul_one]
    congr 1
    simp only [Int.mul_assoc, Int.mul_comm, Int.mul_left_comm]
  · refine ⟨G e, G_pos e, ?_⟩
    have e1 : G 0 = 2 ^ (0 - e).toNat * G e := by
      have := G_add (e := e) (0 - e).toNat h
      rwa [show e + ((0 - e).toNat : Int) = 0 by omega] at this
    show (t * 2 ^ (0 - e).toNat - n * b) * G e = _
    rw [e1]
    generalize (2 : Int) ^ (0 - e).toNat = a
    generalize G e = u
    rw [Int.sub_mul]
    congr 1
    · simp only [Int.mul_assoc, Int.mul_comm, Int.mul_left_comm]
    · simp only [Int.mul_assoc, Int.mul_comm, Int.mul_left_comm]
theorem sc_pos {t b n e : Int} (h : -3000 ≤ e) : 0 < t * (sc n e).2 - (sc n e).1 * b ↔ n * (G e * b) < t * G 0 := by
  obtain ⟨F, hF, q⟩ := sc_cmp t b n e h
  generalize t * (sc n e).2 - (sc n e).1 * b = x at *
  constructor
  · intro hx
    have := Int.mul_pos hx hF
    omega
  · intro hx
    have : 0 < x * F := by omega
    rcases Int.lt_trichotomy x 0 with c | c | c
    · have := Int.mul_neg_of_neg_of_pos c hF
      omega
    · rw [c, Int.zero_mul] at this
      omega
    · exact c
theorem sc_zero {t b n e : Int} (h : -3000 ≤ e) : t * (sc n e).2 - (sc n e).1 * b = 0 ↔ t * G 0 = n * (G e * b) := by
  obtain ⟨F, hF, q⟩ := sc_cmp t b n e h
  generalize t * (sc n e).2 - (sc n e).1 * b = x at *
  constructor
  · intro hx
    rw [hx, Int.zero_mul] at q
    omega
  · intro hx
    have : x * F = 0 := by omega
    rcases Int.mul_eq_zero.mp this with c | c
    · exact c
    · omega
theorem and_one {n : Int} (h : 0 ≤ n) : Builtin.bitAnd n 1 = n % 2 := by
  obtain ⟨k, rfl⟩ := Int.eq_ofNat_of_zero_le h
  have a : decide (0 ≤ (k : Int)) = true := decide_eq_true (Int.natCast_nonneg _)
  have b : decide (0 ≤ (1 : Int)) = true := rfl
  unfold Builtin.bitAnd
  rw [a, b]
  show (((k : Int).toNat &&& (1 : Int).toNat : Nat) : Int) = _
  rw [Int.toNat_natCast, show (1 : Int).toNat = 1 from rfl, Nat.and_one_is_mod]
  omega
section
variable {t b : Int}
theorem scale1 (h : pw t b ≤ 2900) : t1 t b * (G (pw t b) * b) = t * G 0 * b1 t b := by
  have g := pw_ge (t := t) (b := b)
  unfold t1 b1
  split
  · rename_i c
    have e1 : G 0 = 2 ^ (0 - pw t b).toNat * G (pw t b) := by
      have := G_add (e := pw t b) (0 - pw t b).toNat (by omega)
      rwa [show pw t b + ((0 - pw t b).toNat : Int) = 0 by omega] at this
    rw [e1]
    simp only [Int.mul_assoc, Int.mul_comm, Int.mul_left_comm]
  · rename_i c
    have e1 : G (pw t b) = 2 ^ (pw t b).toNat * G 0 := by
      have := G_add (e := 0) (pw t b).toNat (by decide)
      rwa [show (0 : Int) + ((pw t b).toNat : Int) = pw t b by omega] at this
    rw [e1]
    simp only [Int.mul_assoc, Int.mul_comm, Int.mul_left_comm]
theorem scale2 (h : pw t b ≤ 2900) : t1 t b * (G (p2 t b) * b) = t * G 0 * b2 t b := by
  have g := pw_ge (t := t) (b := b)
  have s := scale1 h
  unfold p2 b2
  split
  · rw [G_succ (by omega), show b1 t b * 2 ^ (1 : Int).toNat = 2 * b1 t b by show b1 t b * 2 = _; omega]
    rw [show t1 t b * (2 * G (pw t b) * b) = 2 * (t1 t b * (G (pw t b) * b)) by simp only [Int.mul_assoc, Int.mul_comm, Int.mul_left_comm], s]
    simp only [Int.mul_assoc, Int.mul_comm, Int.mul_left_comm]
  · exact s
theorem wq_eq (hb : 0 < b) : t1 t b = wq t b * b2 t b + wr t b := by
  have := Int.ediv_mul_add_emod (t1 t b) (b2 t b)
  unfold wq wr
  omega
theorem wq_big (ht : 0 < t) (hb : 0 < b) (h : -1074 < p2 t b) : 4503599627370496 * b2 t b ≤ t1 t b := by
  have hb1 := b1_pos (t := t) hb
  unfold p2 at h
  unfold b2
  split at h
  · rename_i c
    rw [if_pos c, show b1 t b * 2 ^ (1 : Int).toNat = 2 * b1 t b by show b1 t b * 2 = _; omega]
    have := Int.mul_le_of_le_ediv hb1 c
    omega
  · rename_i c
    rw [if_neg c]
    have h1 := pow_bits_le ht
    have h2 := lt_pow_bits (n := b) (by omega)
    have hn := bits_pos ht
    have e52 : (4503599627370496 : Int) = 2 ^ 52 := by decide
    have ep : pw t b = bits t - bits b - 53 := by
      unfold pw at h ⊢
      split
      · rename_i c2; rw [if_pos c2] at h; omega
      · rfl
    rw [e52]
    unfold bits at ep
    generalize hk : Builtin.Int.intBits t = n at *
    generalize hm : Builtin.Int.intBits b = m at *
    unfold t1 b1
    split
    · rename_i c2
      have a1 : (2 : Int) ^ (n - 1) * 2 ^ (0 - pw t b).toNat ≤ t * 2 ^ (0 - pw t b).toNat := Int.mul_le_mul_of_nonneg_right h1 (Int.le_of_lt (pow_pos2 _))
      rw [← Int.pow_add] at a1
      have a2 : (2 : Int) ^ 52 * b ≤ 2 ^ 52 * 2 ^ m := Int.mul_le_mul_of_nonneg_left (Int.le_of_lt h2) (by decide)
      rw [← Int.pow_add] at a2
      have a3 : (2 : Int) ^ (52 + m) ≤ 2 ^ (n - 1 + (0 - pw t b).toNat) := pow_mono (by omega)
      omega
    · rename_i c2
      have a1 : b * 2 ^ (pw t b).toNat ≤ 2 ^ m * 2 ^ (pw t b).toNat := Int.mul_le_mul_of_nonneg_right (Int.le_of_lt h2) (Int.le_of_lt (pow_pos2 _))
      rw [← Int.pow_add] at a1
      have a2 : (2 : Int) ^ 52 * (b * 2 ^ (pw t b).toNat) ≤ 2 ^ 52 * 2 ^ (m + (pw t b).toNat) := Int.mul_le_mul_of_nonneg_left a1 (by decide)
      rw [← Int.pow_add] at a2
      have a3 : (2 : Int) ^ (52 + (m + (pw t b).toNat)) ≤ 2 ^ (n - 1) := pow_mono (by omega)
      omega
end
/-- W * 2 ^ p is the nearest one to t / b -/
structure Near (t b W p : Int) : Prop where
  a : t * G 0 ≤ (2 * W + 1) * (G (p - 1) * b)
  ae : t * G 0 = (2 * W + 1) * (G (p - 1) * b) → W % 2 = 0
  l : (2 * W - 1) * (G (p - 1) * b) ≤ t * G 0
  le : t * G 0 = (2 * W - 1) * (G (p - 1) * b) → W % 2 = 0
  c : -1074 < p → 4503599627370496 * (G p * b) ≤ t * G 0
  w0 : 0 ≤ W
  w1 : W ≤ 9007199254740992
  p0 : -1074 ≤ p
theorem dbl {x y z w : Int} (h : y = 2 * z) : x * y = 2 * (x * z) := by rw [h, Int.mul_left_comm]
theorem near_wh {t b : Int} (ht : 0 < t) (hb : 0 < b) (hh : bits t ≤ 2800) : Near t b (wh t b) (p2 t b) := by
  have hpw : pw t b ≤ 2800 := by
    have := bits_nn b
    unfold pw; split <;> omega
  have s2 := scale2 (t := t) (b := b) (by omega)
  have B0 := b2_pos (t := t) hb
  have g := p2_ge (t := t) (b := b)
  have qe := wq_eq (t := t) hb
  have r0 := wr_nn (t := t) hb
  have r1 := wr_lt (t := t) hb
  have q0 := wq_nn (t := t) (b := b) (by omega) hb
  have D0 : 0 < G (p2 t b) * b := Int.mul_pos (G_pos _) hb
  have gp : G (p2 t b) * b = 2 * (G (p2 t b - 1) * b) := by rw [G_pred (by omega), Int.mul_assoc]
  have mx : ∀ x : Int, 2 * (x * (G (p2 t b - 1) * b)) = x * (G (p2 t b) * b) := fun x => by rw [gp, Int.mul_left_comm]
  -- from T1, B to t, b
  have up : ∀ x : Int, 2 * t1 t b ≤ x * b2 t b → t * G 0 ≤ x * (G (p2 t b - 1) * b) := fun x h => by
    have h1 := Int.mul_le_mul_of_nonneg_right h (Int.le_of_lt D0)
    rw [Int.mul_assoc, s2, show x * b2 t b * (G (p2 t b) * b) = x * (G (p2 t b) * b) * b2 t b by simp only [Int.mul_assoc, Int.mul_comm, Int.mul_left_comm], ← mx, ← Int.mul_assoc] at h1
    have := Int.le_of_mul_le_mul_right h1 B0
    omega
  have dn : ∀ x : Int, x * b2 t b ≤ 2 * t1 t b → x * (G (p2 t b - 1) * b) ≤ t * G 0 := fun x h => by
    have h1 := Int.mul_le_mul_of_nonneg_right h (Int.le_of_lt D0)
    rw [Int.mul_assoc 2, s2, show x * b2 t b * (G (p2 t b) * b) = x * (G (p2 t b) * b) * b2 t b by simp only [Int.mul_assoc, Int.mul_comm, Int.mul_left_comm], ← mx, ← Int.mul_assoc 2 (t * G 0)] at h1
    have := Int.le_of_mul_le_mul_right h1 B0
    omega
  have ee : ∀ x : Int, t * G 0 = x * (G (p2 t b - 1) * b) → 2 * t1 t b = x * b2 t b := fun x h => by
    have h1 : 2 * t1 t b * (G (p2 t b) * b) = x * b2 t b * (G (p2 t b) * b) := by
      rw [Int.mul_assoc, s2, h, show x * b2 t b * (G (p2 t b) * b) = x * (G (p2 t b) * b) * b2 t b by simp only [Int.mul_assoc, Int.mul_comm, Int.mul_left_comm], ← mx, ← Int.mul_assoc 2]
    exact Int.eq_of_mul_eq_mul_right (by omega) h1
  have an := and_one q0
  have m1 : ∀ x y : Int, (x * wq t b + y) * b2 t b = x * (wq t b * b2 t b) + y * b2 t b := fun x y => by rw [Int.add_mul, Int.mul_assoc]
  have m1' : ∀ x y : Int, (x * wq t b - y) * b2 t b = x * (wq t b * b2 t b) - y * b2 t b := fun x y => by rw [Int.sub_mul, Int.mul_assoc]
  have hw : ((b2 t b < 2 * wr t b ∨ (2 * wr t b = b2 t b ∧ wq t b % 2 = 1)) ∧ wh t b = wq t b + 1) ∨ (2 * wr t b ≤ b2 t b ∧ (2 * wr t b = b2 t b → wq t b % 2 = 0) ∧ wh t b = wq t b) := by
    have hg : goesUp t b ↔ (b2 t b < 2 * wr t b ∨ (2 * wr t b = b2 t b ∧ wq t b % 2 = 1)) := by
      unfold goesUp
      rw [an]
    by_cases c : goesUp t b
    · exact .inl ⟨hg.1 c, if_pos c⟩
    · have c' : ¬ (b2 t b < 2 * wr t b ∨ (2 * wr t b = b2 t b ∧ wq t b % 2 = 1)) := fun z => c (hg.2 z)
      refine .inr ⟨by omega, fun e => ?_, if_neg c⟩
      have := Int.emod_two_eq (wq t b)
      omega
  refine ⟨?_, ?_, ?_, ?_, ?_, wh_nn (by omega) hb, wh_le (by omega) hb, g⟩
  · refine up _ ?_
    rcases hw with ⟨c, e⟩ | ⟨c, c2, e⟩
    · rw [e, show 2 * (wq t b + 1) + 1 = 2 * wq t b + 3 by omega, m1]
      omega
    · rw [e, m1]
      omega
  · intro h
    have := ee _ h
    rcases hw with ⟨c, e⟩ | ⟨c, c2, e⟩
    · rw [e, show 2 * (wq t b + 1) + 1 = 2 * wq t b + 3 by omega, m1] at this
      omega
    · rw [e, m1] at this
      rw [e]
      exact c2 (by omega)
  · refine dn _ ?_
    rcases hw with ⟨c, e⟩ | ⟨c, c2, e⟩
    · rw [e, show 2 * (wq t b + 1) - 1 = 2 * wq t b + 1 by omega, m1]
      omega
    · rw [e, m1']
      omega
  · intro h
    have := ee _ h
    rcases hw with ⟨c, e⟩ | ⟨c, c2, e⟩
    · rw [e, show 2 * (wq t b + 1) - 1 = 2 * wq t b + 1 by omega, m1] at this
      rw [e]
      omega
    · rw [e, m1'] at this
      omega
  · intro h
    have := wq_big ht hb h
    have h2 := dn (2 * 4503599627370496) (by rw [Int.mul_assoc]; omega)
    rw [gp, Int.mul_left_comm, ← Int.mul_assoc]
    exact h2
/-- what is told by doubling an odd number -/
theorem back {W p M Q : Int} {k : Nat} (hW : 0 < W) (w1 : W ≤ 9007199254740992) (p0 : -1074 ≤ p) (c : -1074 < p → 4503599627370496 ≤ W) (hM : M = (red W p).1 * 2 ^ k) (hQ : Q = (red W p).2 - k)
    (hk : k = 0 ∨ (M < 9007199254740992 ∧ -1074 ≤ Q)) (hs : ¬ (0 < M ∧ M < 4503599627370496 ∧ -1074 < Q)) : (M = W ∧ Q = p) ∨ (W = 9007199254740992 ∧ M = 4503599627370496 ∧ Q = p + 1) := by
  obtain ⟨j, m, hm, e, r⟩ := red_spec hW p
  rw [r] at hM hQ
  simp only at hM hQ
  rcases Nat.lt_trichotomy k j with c1 | c1 | c1
  · obtain ⟨i, rfl⟩ : ∃ i, j = k + (i + 1) := ⟨j - k - 1, by omega⟩
    have e2 : W = 2 ^ i * (2 * M) := by
      rw [e, hM, Int.pow_add, Int.pow_succ]
      simp only [Int.mul_assoc, Int.mul_comm, Int.mul_left_comm]
    have M0 : 0 < M := by
      rw [hM]
      exact Int.mul_pos (by omega) (pow_pos2 _)
    have M1 : 4503599627370496 ≤ M := by omega
    rcases Nat.eq_zero_or_pos i with z | z
    · subst z
      rw [Int.pow_zero, Int.one_mul] at e2
      exact .inr ⟨by omega, by omega, by omega⟩
    · obtain ⟨i', rfl⟩ : ∃ i', i = i' + 1 := ⟨i - 1, by omega⟩
      have p2 : (2 : Int) ≤ 2 ^ (i' + 1) := by
        rw [Int.pow_succ]
        have := pow_pos2 i'
        omega
      have := Int.mul_le_mul_of_nonneg_right p2 (show 0 ≤ 2 * M by omega)
      omega
  · subst c1
    refine .inl ⟨?_, by omega⟩
    rw [hM, e, Int.mul_comm]
  · obtain ⟨i, rfl⟩ : ∃ i, k = j + (i + 1) := ⟨k - j - 1, by omega⟩
    have e2 : M = 2 ^ i * (2 * W) := by
      rw [e, hM, Int.pow_add, Int.pow_succ]
      simp only [Int.mul_assoc, Int.mul_comm, Int.mul_left_comm]
    have h3 := pow_pos2 i
    have : 1 * (2 * W) ≤ 2 ^ i * (2 * W) := Int.mul_le_mul_of_nonneg_right (by omega) (by omega)
    have := c (by omega)
    omega
/-- the law's look at it -/
structure NearL (t b M Q : Int) : Prop where
  a : ¬ 0 < t * (sc (2 * M + 1) (Q - 1)).2 - (sc (2 * M + 1) (Q - 1)).1 * b
  ae : t * (sc (2 * M + 1) (Q - 1)).2 - (sc (2 * M + 1) (Q - 1)).1 * b = 0 → M % 2 = 0
  l : (M = 4503599627370496 ∧ -1074 < Q) → 0 < t * (sc (4 * M - 1) (Q - 2)).2 - (sc (4 * M - 1) (Q - 2)).1 * b ∨ (t * (sc (4 * M - 1) (Q - 2)).2 - (sc (4 * M - 1) (Q - 2)).1 * b = 0 ∧ M % 2 = 0) ∨ M = 0
  l' : ¬ (M = 4503599627370496 ∧ -1074 < Q) → 0 < t * (sc (2 * M - 1) (Q - 1)).2 - (sc (2 * M - 1) (Q - 1)).1 * b ∨ (t * (sc (2 * M - 1) (Q - 1)).2 - (sc (2 * M - 1) (Q - 1)).1 * b = 0 ∧ M % 2 = 0) ∨ M = 0
theorem near_w {t b W p : Int} (n : Near t b W p) (hb : 0 < b) : -1074 < p → 4503599627370496 ≤ W := fun h => by
  have h1 := n.c h
  have h2 := n.a
  have D0 : 0 < G (p - 1) * b := Int.mul_pos (G_pos _) hb
  have gp : G p * b = 2 * (G (p - 1) * b) := by rw [G_pred (by omega), Int.mul_assoc]
  rw [gp] at h1
  rcases Int.lt_or_le W 4503599627370496 with c | c
  · have : (2 * W + 1) * (G (p - 1) * b) ≤ 9007199254740991 * (G (p - 1) * b) := Int.mul_le_mul_of_nonneg_right (by omega) (by omega)
    omega
  · exact c
theorem near_law {t b W p M Q : Int} {k : Nat} (n : Near t b W p) (hb : 0 < b) (hW : 0 < W) (hM : M = (red W p).1 * 2 ^ k) (hQ : Q = (red W p).2 - k)
    (hk : k = 0 ∨ (M < 9007199254740992 ∧ -1074 ≤ Q)) (hs : ¬ (0 < M ∧ M < 4503599627370496 ∧ -1074 < Q)) : NearL t b M Q := by
  have D0 : 0 < G (p - 1) * b := Int.mul_pos (G_pos _) hb
  have p0 := n.p0
  have gp : G p * b = 2 * (G (p - 1) * b) := by rw [G_pred (by omega), Int.mul_assoc]
  have gq : G (p - 1) * b = 2 * (G (p - 2) * b) := by rw [G_pred (by omega), Int.mul_assoc, show p - 1 - 1 = p - 2 by omega]
  have a := n.a
  have ae := n.ae
  have l := n.l
  have le := n.le
  have c := n.c
  have or3 : ∀ {x y : Int} {A : Prop}, x ≤ y → (y = x → A) → x < y ∨ y = x ∧ A := fun {x y A} h f => by
    rcases Int.lt_or_eq_of_le h with h | h
    · exact .inl h
    · exact .inr ⟨h.symm, f h.symm⟩
  rcases back hW n.w1 n.p0 (near_w n hb) hM hQ hk hs with ⟨rfl, rfl⟩ | ⟨hW2, rfl, rfl⟩
  · refine ⟨?_, ?_, ?_, ?_⟩
    · rw [sc_pos (by omega)]
      omega
    · rw [sc_zero (by omega)]
      exact ae
    · rintro ⟨h1, h2⟩
      have := c h2
      left
      rw [sc_pos (by omega)]
      have : (4 * M - 1) * (G (Q - 2) * b) = 4 * 4503599627370496 * (G (Q - 2) * b) - G (Q - 2) * b := by
        rw [Int.sub_mul, Int.one_mul, h1]
      have := Int.mul_pos (G_pos (Q - 2)) hb
      omega
    · intro _
      rcases or3 l le with h | ⟨h1, h2⟩
      · left
        rw [sc_pos (by omega)]
        exact h
      · right; left
        rw [sc_zero (by omega)]
        exact ⟨h1, h2⟩
  · subst hW2
    refine ⟨?_, fun _ => rfl, ?_, ?_⟩
    · rw [sc_pos (by omega), show p + 1 - 1 = p by omega, gp]
      omega
    · intro _
      rcases or3 l (fun _ => (rfl : (4503599627370496 : Int) % 2 = 0)) with h | ⟨h1, h2⟩
      · left
        rw [sc_pos (by omega), show p + 1 - 2 = p - 1 by omega]
        exact h
      · right; left
        rw [sc_zero (by omega), show p + 1 - 2 = p - 1 by omega]
        exact ⟨h1, h2⟩
    · intro h
      exact absurd ⟨rfl, by omega⟩ h
theorem near_zero {t b p : Int} (n : Near t b 0 p) (hb : 0 < b) : NearL t b 0 (-1074) := by
  have hp : p = -1074 := by
    have h0 := n.p0
    rcases Int.lt_or_le (-1074) p with c | c
    · have := near_w n hb c
      omega
    · omega
  subst hp
  refine ⟨?_, fun _ => rfl, fun _ => .inr (.inr rfl), fun _ => .inr (.inr rfl)⟩
  rw [sc_pos (by decide)]
  have := n.a
  simp only [Int.mul_zero, Int.zero_add] at this ⊢
  omega
theorem edge {t b W p : Int} (n : Near t b W p) (hb : 0 < b) : 1024 < bits W + p ↔ ((2 : Int) ^ 1024 - 2 ^ 970) * b ≤ t := by
  have e1 : ((2 : Int) ^ 1024 - 2 ^ 970) * G 0 = 18014398509481983 * G 970 := by decide +kernel
  have e2 : ((2 : Int) ^ 1024 - 2 ^ 970) * b ≤ t ↔ 18014398509481983 * (G 970 * b) ≤ t * G 0 := by
    have e3 : ((2 : Int) ^ 1024 - 2 ^ 970) * b * G 0 = 18014398509481983 * (G 970 * b) := by
      rw [Int.mul_right_comm, e1, Int.mul_assoc]
    rw [← e3]
    exact ⟨fun h => Int.mul_le_mul_of_nonneg_right h (Int.le_of_lt (G_pos 0)), fun h => Int.le_of_mul_le_mul_right h (G_pos 0)⟩
  rw [e2]
  have W0 := n.w0
  have W1 := n.w1
  have a := n.a
  have ae := n.ae
  have l := n.l
  have c := n.c
  have p0 := n.p0
  have D0 : ∀ e, 0 < G e * b := fun e => Int.mul_pos (G_pos _) hb
  have gd : ∀ {e : Int}, -2999 ≤ e → G e * b = 2 * (G (e - 1) * b) := fun {e} h => by rw [G_pred h, Int.mul_assoc]
  have gl : ∀ {e f : Int}, e ≤ f → G e * b ≤ G f * b := fun h => Int.mul_le_mul_of_nonneg_right (G_le h) (by omega)
  have b53 : bits W ≤ ((53 : Nat) : Int) ↔ W < 9007199254740992 := by
    rw [bits_lt_pow W0]
    rfl
  have b52 : bits W ≤ ((52 : Nat) : Int) ↔ W < 4503599627370496 := by
    rw [bits_lt_pow W0]
    rfl
  have b54 : bits W ≤ ((54 : Nat) : Int) := (bits_lt_pow W0).2 (by omega)
  constructor
  · intro h
    have hp : 971 ≤ p := by omega
    have := c (by omega)
    rcases Int.lt_or_le 971 p with h2 | h2
    · have g1 := gl (show (972 : Int) ≤ p by omega)
      have g2 := gd (e := 972) (by decide)
      have g3 := gd (e := 971) (by decide)
      have := D0 970
      have := Int.mul_le_mul_of_nonneg_left g1 (show (0 : Int) ≤ 4503599627370496 by decide)
      simp only [show (972 : Int) - 1 = 971 from rfl, show (971 : Int) - 1 = 970 from rfl] at g2 g3
      omega
    · have hp : p = 971 := by omega
      subst hp
      have hw : W = 9007199254740992 := by omega
      subst hw
      exact l
  · intro h
    rcases Int.lt_or_le 1024 (bits W + p) with h2 | h2
    · exact h2
    · exfalso
      have hp : p ≤ 971 := by
        rcases Int.lt_or_le 971 p with h3 | h3
        · have := near_w n hb (by omega)
          omega
        · exact h3
      rcases Int.lt_or_le p 971 with h3 | h3
      · have g1 := gl (show p - 1 ≤ 969 by omega)
        have g2 := gd (e := 970) (by decide)
        simp only [show (970 : Int) - 1 = 969 from rfl] at g2
        have h4 := Int.mul_le_mul_of_nonneg_left g1 (show (0 : Int) ≤ 2 * W + 1 by omega)
        have h5 : (2 * W + 1) * (G 969 * b) ≤ 18014398509481985 * (G 969 * b) := Int.mul_le_mul_of_nonneg_right (by omega) (Int.le_of_lt (D0 969))
        have := D0 969
        omega
      · have hp : p = 971 := by omega
        subst hp
        have hw : W < 9007199254740992 := by omega
        simp only [show (971 : Int) - 1 = 970 from rfl] at a ae l
        rcases Int.lt_or_le W 9007199254740991 with h4 | h4
        · have h5 : (2 * W + 1) * (G 970 * b) ≤ 18014398509481981 * (G 970 * b) := Int.mul_le_mul_of_nonneg_right (by omega) (Int.le_of_lt (D0 970))
          have := D0 970
          omega
        · have hw2 : W = 9007199254740991 := by omega
          subst hw2
          have := ae (by omega)
          omega
end Nu

set_option Elab.async false
set_option linter.all false
set_option maxRecDepth 100000
set_option maxHeartbeats 4000000
namespace Rd
open PySem PySem.Spec L2
section
variable {X : Cx}
theorem pgE (x : Str) {i : Int} {pos : Pos} (hm : ∃ t, X.mg x = some (.int i t)) (hg : Gl X x := by rfl) (hd : (x == ("__debug__" : Str)) = false := by decide) : PE X (.Name x pos) (tC (.int i)) := by
  obtain ⟨t, h⟩ := hm
  exact pe_glob hg h ⟨t, rfl⟩ hd
/-- e.f, as a target -/
def gFld (K : PySem.W.Frag) (to : TE) (f : Str) : TG := fun v σ H Q => to σ H fun x H1 => ∃ a C dx fs, x = .ref a ∧ H1 a = some (.ins C dx fs) ∧ Cls K C ∧ NoAttr K C f ∧ fs.length < 1000 ∧ Q σ (upd H1 a (.ins C dx (putF f v fs)))
theorem pg_fld {o : Expr} {f : Str} {pos : Pos} {to : TE} (ho : PE X o to) : PG X (.Attribute o f pos) (gFld X.K to f) := by
  refine ⟨fun pins s σ H v u Q I r h => ?_⟩
  rw [assign_Attribute]
  refine wpAny_bind (wpAny_holding (thn (ho.run pins s σ H _ I h) fun ov s1 ⟨x, H1, I1, r1, a, C, dx, fs, ex, ea, c, n, l, q1⟩ => ?_))
  subst ex
  obtain rfl : ov = Value.ref a := r1
  refine wpAny_bind (wpAny_standAt (wpAny_bind (wpAny_holding (setattr_ok I1 ea c n l r fun s3 I3 => ?_))))
  exact wpAny_release ⟨σ, _, I3, q1⟩
end
theorem same_get {H H' : Hp} {a : Addr} {o : HO} (s : Same H H') (h : H a = some o) : H' a = some o := s a o h
theorem same_upd {H : Hp} {a : Addr} {o : HO} (h : H a = none) : Same H (upd H a o) := fun b u e => by rw [upd_ne (ne_of_none e h)]; exact e
section
variable {σ : L2.St} {H : Hp} {Q : VK} {ta tb te : TE} {x y v : V} {K : PySem.W.Frag} {xs : List V}
theorem w_tupI (hl : xs.length ≤ 1000) (q : ∀ p H', Same H H' → H p = none → H' p = some (.tup xs) → Q (.ref p) H') : TupK xs H Q :=
  ⟨Nat.le_trans hl (by decide), fun p hp => q p _ (same_upd hp) hp upd_same⟩
theorem w_lstI (hl : xs.length ≤ 1000) (q : ∀ p H', Same H H' → H p = none → H' p = some (.lst xs) → Q (.ref p) H') : LstK xs H Q :=
  ⟨Nat.le_trans hl (by decide), fun p hp => q p _ (same_upd hp) hp upd_same⟩
theorem w_tup1 {x1 : V} (q : ∀ p H', Same H H' → H p = none → H' p = some (.tup [x1]) → Q (.ref p) H') : TupK [x1] H Q := w_tupI (by show 1 ≤ 1000; decide) q
theorem w_lst1 {x1 : V} (q : ∀ p H', Same H H' → H p = none → H' p = some (.lst [x1]) → Q (.ref p) H') : LstK [x1] H Q := w_lstI (by show 1 ≤ 1000; decide) q
theorem w_tup2 {x1 x2 : V} (q : ∀ p H', Same H H' → H p = none → H' p = some (.tup [x1, x2]) → Q (.ref p) H') : TupK [x1, x2] H Q := w_tupI (by show 2 ≤ 1000; decide) q
theorem w_lst2 {x1 x2 : V} (q : ∀ p H', Same H H' → H p = none → H' p = some (.lst [x1, x2]) → Q (.ref p) H') : LstK [x1, x2] H Q := w_lstI (by show 2 ≤ 1000; decide) q
theorem w_tup3 {x1 x2 x3 : V} (q : ∀ p H', Same H H' → H p = none → H' p = some (.tup [x1, x2, x3]) → Q (.ref p) H') : TupK [x1, x2, x3] H Q := w_tupI (by show 3 ≤ 1000; decide) q
theorem w_lst4 {x1 x2 x3 x4 : V} (q : ∀ p H', Same H H' → H p = none → H' p = some (.lst [x1, x2, x3, x4]) → Q (.ref p) H') : LstK [x1, x2, x3, x4] H Q := w_lstI (by show 4 ≤ 1000; decide) q
theorem w_lst3 {x1 x2 x3 : V} (q : ∀ p H', Same H H' → H p = none → H' p = some (.lst [x1, x2, x3]) → Q (.ref p) H') : LstK [x1, x2, x3] H Q := w_lstI (by show 3 ≤ 1000; decide) q
theorem w_in {p : Addr} (h : H p = some (.tup xs)) (f1 : flatV x = true) (f2 : xs.all flatV = true) (q : Q (.bl (inV x xs)) H) : rIn K false x (.ref p) H Q := ⟨p, xs, rfl, .inr (SqT.of h), f1, f2, q⟩
theorem w_nin {p : Addr} (h : H p = some (.tup xs)) (f1 : flatV x = true) (f2 : xs.all flatV = true) (q : Q (.bl (!inV x xs)) H) : rIn K true x (.ref p) H Q := ⟨p, xs, rfl, .inr (SqT.of h), f1, f2, q⟩
theorem w_gtup {n : Nat} {t : TGs} {a : Addr} {Q : L2.St → Hp → Prop} (h : H a = some (.tup xs)) (hn : xs.length = n) (q : t xs σ H Q) : gTup K n t (.ref a) σ H Q := ⟨a, xs, rfl, SqT.of h, hn, q⟩
theorem w_gcons {t : TG} {u : TGs} {v : V} {r : List V} {Q : L2.St → Hp → Prop} (h : t v σ H fun σ' H' => u r σ' H' Q) : gCons t u (v :: r) σ H Q := ⟨v, r, rfl, h⟩
theorem w_gnil {Q : L2.St → Hp → Prop} (h : Q σ H) : gNil [] σ H Q := ⟨rfl, h⟩
theorem w_ixT {p : Addr} {i : Int} (h : H p = some (.tup xs)) (ha : atI xs i = some v) (q : Q v H) : rIxT K (.ref p) (.int i) H Q := ⟨p, xs, i, v, rfl, rfl, SqT.of h, ha, q⟩
theorem w_ixL {p : Addr} {i : Int} (h : H p = some (.lst xs)) (ha : atI xs i = some v) (q : Q v H) : rIxL K (.ref p) (.int i) H Q := ⟨p, xs, i, v, rfl, rfl, SqL.of h, ha, q⟩
theorem w_isN (q : Q (.bl (decide (x = .non))) H) : (V.non = .non ∧ Q (.bl (decide (x = .non))) H) := ⟨rfl, q⟩
theorem dec_ii {i j : Int} : decide (V.int i = V.int j) = decide (i = j) := by
  by_cases h : i = j
  · subst h; simp
  · rw [decide_eq_false h, decide_eq_false (fun e => h (V.int.inj e))]
theorem dec_ss {i j : Str} : decide (V.str i = V.str j) = decide (i = j) := by
  by_cases h : i = j
  · subst h; simp
  · rw [decide_eq_false h, decide_eq_false (fun e => h (V.str.inj e))]
theorem dec_is {i : Int} {j : Str} : decide (V.int i = V.str j) = false := decide_eq_false (fun e => nomatch e)
theorem dec_si {i : Int} {j : Str} : decide (V.str j = V.int i) = false := decide_eq_false (fun e => nomatch e)
/-- the test of two ints for equality -/
theorem w_eqI {i j : Int} (q : Q (.bl (decide (i = j))) H) : rEq (.int i) (.int j) H Q := ⟨rfl, by rw [dec_ii]; exact q⟩
theorem w_neI {i j : Int} (q : Q (.bl (!decide (i = j))) H) : rNe (.int i) (.int j) H Q := ⟨rfl, by rw [dec_ii]; exact q⟩
theorem w_eqS {i j : Str} (q : Q (.bl (decide (i = j))) H) : rEq (.str i) (.str j) H Q := ⟨rfl, by rw [dec_ss]; exact q⟩
theorem w_eqIS {i : Int} {j : Str} (q : Q (.bl false) H) : rEq (.int i) (.str j) H Q := ⟨rfl, by rw [dec_is]; exact q⟩
theorem w_eqSI {i : Int} {j : Str} (q : Q (.bl false) H) : rEq (.str j) (.int i) H Q := ⟨rfl, by rw [dec_si]; exact q⟩
/-- the object ahead of a method's call -/
def MethK (C : Addr) (m : Str) (R : V → Hp → Prop) (x : V) (H : Hp) : Prop := ∃ a dx fs, x = .ref a ∧ H a = some (.ins C dx fs) ∧ fs.lookup m = none ∧ R x H
theorem w_meth {C : Addr} {m : Str} {sp : Sp} {dvs : List V} {E : XK} {t : TA} (h : ta σ H fun x H1 => MethK C m (fun x H1 => t σ H1 fun vs H2 => sp (x :: (vs ++ dvs)) H2 Q E) x H1) : tMeth C m sp dvs E ta t σ H Q := h
theorem w_methI {C : Addr} {m : Str} {R : V → Hp → Prop} {a dx : Addr} {fs : List (Str × V)} (h : H a = some (.ins C dx fs)) (l : fs.lookup m = none) (q : R (.ref a) H) : MethK C m R (.ref a) H := ⟨a, dx, fs, rfl, h, l, q⟩
theorem w_nn {R : Prop} (q : R) : V.non = V.non ∧ R := ⟨rfl, q⟩
end
/-- a class whose __init__ has defaults dvs behind what is written -/
structure KnCD (P : Program) (w : World) (K : PySem.W.Frag) (mg : Str → Option Value) (base : Heap) (CX : CXT) (k : Nat) (x : Str) (C : Addr) (ps : List Str) (dvs : List V) (sp : Sp) : Prop where
  ex : ∃ f fd ds, mg x = some (.ref C) ∧ Mk K C f ∧ Vals dvs ds ∧ Binds K fd ps ds ∧ FnOk P w K mg base CX k f fd ps sp
theorem pkCD {X : Cx} {k j : Nat} {x : Str} {ps : List Str} {sp : Sp} {p pos : Pos} {e : Expr} {es : List Expr} {t : TA} {C : Addr} {dvs : List V} (h : KnCD X.prog X.w X.K X.mg X.base CX0 k x C ps dvs sp) (hr : Room j X.A) (ha : PA X (e :: es) t) (hj : k + 1 ≤ j := by decide) (hg : Gl X x := by rfl) (hdb : (x == ("__debug__" : Str)) = false := by decide)
    (he : starEach (e :: es) X.env = (false, eval e X.env) :: starEach es X.env := by rfl) (hpl : (backTo pos (starEach es X.env)).any (·.1) = false := by rfl) : PE X (.Call (.Name x p) (e :: es) [] pos) (tMake C sp dvs E0 t) := by
  obtain ⟨f, fd, ds, a, b, c, d, g⟩ := h.ex
  exact pe_make b g (hr.mono hj) hg a d c pass0 ha hdb he hpl
def MakeKD (C : Addr) (sp : Sp) (dvs vs : List V) (H1 : Hp) (Q : VK) (E : XK) : Prop := ∀ x dx, H1 x = none → H1 dx = none → dx ≠ x → sp (.ref x :: (vs ++ dvs)) (upd (upd H1 dx (.own x)) x (.ins C dx [])) (fun v H2 => v = .non ∧ Q (.ref x) H2) E
theorem w_makeD {C : Addr} {sp : Sp} {E : XK} {t : TA} {dvs : List V} {σ : L2.St} {H : Hp} {Q : VK} (h : t σ H fun vs H1 => MakeKD C sp dvs vs H1 Q E) : tMake C sp dvs E t σ H Q := h
/-- xs * k -/
theorem w_rep {l : Addr} {k : Int} {xs : List V} {H : Hp} {Q : VK} (h : H l = some (.lst xs)) (h1 : -(2 ^ 63) ≤ k) (h2 : k < 2 ^ 63) (h3 : xs.length * k.toNat ≤ sizeLine) (q : ∀ p H', Same H H' → H p = none → H' p = some (.lst (List.replicate k.toNat xs).flatten) → Q (.ref p) H') : rRep (.ref l) (.int k) H Q :=
  ⟨l, k, xs, rfl, rfl, h, h1, h2, h3, fun p hp => q p _ (same_upd hp) hp upd_same⟩
theorem w_lenL {p : Addr} {K : PySem.W.Frag} {xs : List V} {H : Hp} {R : List V → Prop} (h : H p = some (.lst xs)) (q : R xs) : ∃ p' ys, [V.ref p] = [V.ref p'] ∧ (SqL K H p' ys ∨ SqT K H p' ys) ∧ R ys := ⟨p, xs, rfl, .inl (SqL.of h), q⟩
/-- all but what stands at x is as it was -/
def Oth (x : Addr) (H H' : Hp) : Prop := ∀ b o, b ≠ x → H b = some o → H' b = some o
theorem Oth.refl {x : Addr} {H : Hp} : Oth x H H := fun _ _ _ e => e
theorem Oth.same {x : Addr} {H H1 H2 : Hp} (a : Oth x H H1) (s : Same H1 H2) : Oth x H H2 := fun b o hb e => s b o (a b o hb e)
theorem Oth.put {x : Addr} {H H1 : Hp} {o : HO} (a : Oth x H H1) : Oth x H (upd H1 x o) := fun b u hb e => by rw [upd_ne hb]; exact a b u hb e
theorem Oth.trans {x : Addr} {H H1 H2 : Hp} (a : Oth x H H1) (b : Oth x H1 H2) : Oth x H H2 := fun c o hc e => b c o hc (a c o hc e)
theorem Same.oth {x : Addr} {H H1 : Hp} (s : Same H H1) : Oth x H H1 := fun b o _ e => s b o e
end Rd

set_option Elab.async false
set_option linter.all false
set_option maxRecDepth 100000
set_option autoImplicit false
set_option maxHeartbeats 4000000
namespace Rd
open PySem PySem.Spec PyProof.Rows PySem.SeqAt L2
/-! bool - bool -/
theorem sub_bools (a b : Bool) : Gives (Builtin.«int.__sub__» ⟨[.bool a, .bool b], []⟩) (.int ((if a = true then (1 : Int) else 0) - if b = true then (1 : Int) else 0)) :=
  .of_wp fun M A E s Q h => by obtain ⟨hp, g, d, tk, os⟩ := s; wp_walk; exact ⟨_, rfl, h⟩
def rSubB : R2 := fun x y H Q => ∃ a b, x = .bl a ∧ y = .bl b ∧ Q (.int ((if a = true then (1 : Int) else 0) - if b = true then (1 : Int) else 0)) H
theorem op_sub_bb {X : Cx} : OpR X (binaryOp .Sub) rSubB := by
  intro pins s σ H x y v u Q I rx ry h
  obtain ⟨a, b, rfl, rfl, q⟩ := h
  cases rx
  cases ry
  exact binaryOp_gives (op := .Sub) (T := "bool") rfl rfl F.fills_bool_sub F.slot_bool_sub F.entry_int_sub (F.args_int_sub_2 _ _) (sub_bools a b) trivial ⟨.int _, H, I.tok _, ⟨_, rfl⟩, q⟩
theorem w_subB {H : Hp} {Q : VK} {a b : Bool} (q : Q (.int ((if a = true then (1 : Int) else 0) - if b = true then (1 : Int) else 0)) H) : rSubB (.bl a) (.bl b) H Q := ⟨a, b, rfl, rfl, q⟩
/-! == of instances without an __eq__ of their own -/
section
variable {prog : Program} {w : World} {A : Around} {E : Value → Shared → Prop} {s : Shared} {K : PySem.W.Frag} {x y C : Addr} {ox oy : Obj} {od od' : Option Obj}
theorem call_objEqO {Q : Value → Shared → Prop} (X : K.In s.heap) (I : PySem.W.InstAt s.heap x ox C od) (hm : PySem.W.mroIn K C (.type "object") = some true) (hx : s.heap.get? x = some ox) (hy : s.heap.get? y = some oy) (hxy : x ≠ y) (hnt : ox.cls ≠ .type "tuple") (hq : Q .notImplemented s) :
    wpAny (model prog w) A (call (.builtin "object.__eq__") [.ref x, .ref y]) Q E s :=
  wpAny_call (codeAny_call_builtin F.cmp_object.eq.plain F.cmpEntry_eq (PySem.W.check_slot F.cmpKind_eq F.cmpSplit_eq (I.type.andThen (PySem.W.looks_mroIn X hm)) (F.cmpArgs_eq _ _) (objEq_entry_other hxy hx hy hnt hq)))
theorem call_objEqS {Q : Value → Shared → Prop} (X : K.In s.heap) (I : PySem.W.InstAt s.heap x ox C od) (hm : PySem.W.mroIn K C (.type "object") = some true) (hq : Q (.bool true) s) :
    wpAny (model prog w) A (call (.builtin "object.__eq__") [.ref x, .ref x]) Q E s :=
  wpAny_call (codeAny_call_builtin F.cmp_object.eq.plain F.cmpEntry_eq (PySem.W.check_slot F.cmpKind_eq F.cmpSplit_eq (I.type.andThen (PySem.W.looks_mroIn X hm)) (F.cmpArgs_eq _ _) (objEq_entry_same hq)))
theorem rc_other (hu : A.units < cLine) (X : K.In s.heap) (I : PySem.W.InstAt s.heap x ox C od) (I' : PySem.W.InstAt s.heap y oy C od') (hx : s.heap.get? x = some ox) (hy : s.heap.get? y = some oy) (hnt : ox.cls ≠ .type "tuple") (hnt' : oy.cls ≠ .type "tuple") (hxy : x ≠ y)
    (hm : PySem.W.mroIn K C (.type "object") = some true) (hs : PySem.W.findIn K (.ref C) "__eq__" = some (some (.builtin "object.__eq__"))) : RcAt A s (.ref x) (.ref y) false := fun prog w E Q h => by
  have one : wpAny (model prog w) A (tryCompare (.ref x) "__eq__" (.ref y)) (fun r s' => r = none ∧ s' = s) E s := by
    unfold tryCompare
    exact wpAny_bind (HN.ifBound_objEq X I hs (call_objEqO X I hm hx hy hxy hnt (wpAny_pure ⟨rfl, rfl⟩)))
  have two : wpAny (model prog w) A (tryCompare (.ref y) "__eq__" (.ref x)) (fun r s' => r = none ∧ s' = s) E s := by
    unfold tryCompare
    exact wpAny_bind (HN.ifBound_objEq X I' hs (call_objEqO X I' hm hy hx hxy.symm hnt' (wpAny_pure ⟨rfl, rfl⟩)))
  simp only [richCompare, cmpInfo_Eq, oneThing_ref]
  refine wpAny_holding (wpAny_bind (wpAny_cRoomFor hu ?_))
  refine wpAny_bind (I.type.here ?_)
  refine wpAny_bind (I'.type.here ?_)
  rw [if_neg (by simp)]
  refine wpAny_bind (wpAny_pure ?_)
  simp only [Bool.false_eq_true, if_false, Bool.not_false, if_true]
  refine wpAny_bind (m := tryCompare (.ref x) _ (.ref y)) (wpAny_mono one (fun r s1 z => ?_) fun _ _ e => e)
  obtain ⟨z1, z2⟩ := z
  subst z1
  subst z2
  refine wpAny_bind (m := tryCompare (.ref y) _ (.ref x)) (wpAny_mono two (fun r s2 z => ?_) fun _ _ e => e)
  obtain ⟨z1, z2⟩ := z
  subst z1
  subst z2
  exact wpAny_bind (wpAny_rule (wpAny_bind (wpAny_isSame_ref_other hxy hx hy hnt (wpAny_pure h))))
theorem rc_self (hu : A.units < cLine) (X : K.In s.heap) (I : PySem.W.InstAt s.heap x ox C od) (hm : PySem.W.mroIn K C (.type "object") = some true) (hs : PySem.W.findIn K (.ref C) "__eq__" = some (some (.builtin "object.__eq__"))) : RcAt A s (.ref x) (.ref x) true := fun prog w E Q h => by
  have one : wpAny (model prog w) A (tryCompare (.ref x) "__eq__" (.ref x)) (fun r s' => r = some (.bool true) ∧ s' = s) E s := by
    unfold tryCompare
    exact wpAny_bind (HN.ifBound_objEq X I hs (call_objEqS X I hm (wpAny_pure ⟨rfl, rfl⟩)))
  simp only [richCompare, cmpInfo_Eq, oneThing_ref]
  refine wpAny_holding (wpAny_bind (wpAny_cRoomFor hu ?_))
  refine wpAny_bind (I.type.here ?_)
  refine wpAny_bind (I.type.here ?_)
  rw [if_neg (by simp)]
  refine wpAny_bind (wpAny_pure ?_)
  simp only [Bool.false_eq_true, if_false, Bool.not_false, if_true]
  refine wpAny_bind (m := tryCompare (.ref x) _ (.ref x)) (wpAny_mono one (fun r s1 z => ?_) fun _ _ e => e)
  obtain ⟨z1, z2⟩ := z
  subst z1
  subst z2
  exact wpAny_pure h
theorem rc_none2 (hu : A.units < cLine) (X : K.In s.heap) (I : PySem.W.InstAt s.heap x ox C od) (hm : PySem.W.mroIn K C (.type "object") = some true) (hs : PySem.W.findIn K (.ref C) "__eq__" = some (some (.builtin "object.__eq__")))
    (hsub : PySem.W.subIn K (.ref C) (.type "NoneType") = some false) : RcAt A s .none (.ref x) false := fun prog w E Q h => by
  have one : wpAny (model prog w) A (tryCompare (.ref x) "__eq__" .none) (fun r s' => r = none ∧ s' = s) E s := by
    unfold tryCompare
    exact wpAny_bind (HN.ifBound_objEq X I hs (HN.call_objEq X I hm (wpAny_pure ⟨rfl, rfl⟩)))
  have two : wpAny (model prog w) A (tryCompare .none "__eq__" (.ref x)) (fun r s' => r = none ∧ s' = s) E s :=
    wpAny_tryCompare_declines (show s.TypeIs .none "NoneType" from rfl) F.slot_NoneType_eq_refl (call_gives F.slot_NoneType_eq_refl rfl F.entry_NoneType_eq (F.args_NoneType_eq_2 _ _) (NoneType___eq___none_ref_0 x) ⟨rfl, rfl, rfl⟩)
  simp only [richCompare, cmpInfo_Eq]
  refine wpAny_holding (wpAny_bind (wpAny_cRoomFor hu ?_))
  refine wpAny_bind (wpAny_typeOf (show s.TypeIs .none "NoneType" from rfl) ?_)
  refine wpAny_bind (I.type.here ?_)
  rw [if_pos (by simp)]
  refine wpAny_bind ((PySem.W.looks_subIn X hsub).here ?_)
  simp only [Bool.false_eq_true, if_false, Bool.not_false, if_true]
  refine wpAny_bind (m := tryCompare .none _ (.ref x)) (wpAny_mono two (fun r s1 z => ?_) fun _ _ e => e)
  obtain ⟨z1, z2⟩ := z
  subst z1
  subst z2
  refine wpAny_bind (m := tryCompare (.ref x) _ .none) (wpAny_mono one (fun r s2 z => ?_) fun _ _ e => e)
  obtain ⟨z1, z2⟩ := z
  subst z1
  subst z2
  exact wpAny_bind (wpAny_rule (wpAny_bind (wpAny_of_eq (rfl : isSame .none (.ref x) = pure false) (wpAny_pure h))))
end
/-- what the text's class at C must have for the == of object -/
structure ObjC (K : PySem.W.Frag) (C : Addr) : Prop where
  hm : PySem.W.mroIn K C (.type "object") = some true
  hs : PySem.W.findIn K (.ref C) "__eq__" = some (some (.builtin "object.__eq__"))
  hn : PySem.W.subIn K (.ref C) (.type "NoneType") = some false
def InsV (C : Addr) (H : Hp) (x : V) : Prop := ∃ a dx fs, x = .ref a ∧ H a = some (.ins C dx fs)
def rEqO (C : Addr) : R2 := fun x y H Q => (scal x y = true ∨ (InsV C H x ∧ (y = .non ∨ InsV C H y)) ∨ (x = .non ∧ InsV C H y)) ∧ Q (.bl (decide (x = y))) H
theorem op_eqO {X : Cx} {C : Addr} (hu : X.A.units < cLine) (O : ObjC X.K C) : OpR X (compareOp .Eq) (rEqO C) := by
  intro pins s σ H x y v u Q I rx ry h
  obtain ⟨c, q⟩ := h
  rcases c with c | ⟨⟨a, dx, fs, rfl, ha⟩, c⟩ | ⟨rfl, ⟨b, dy, gs, rfl, hb⟩⟩
  · exact op_eq pins s σ H x y v u Q I rx ry ⟨c, q⟩
  · cases rx
    obtain ⟨mA, OA, _⟩ := ins_get I.hok ha
    obtain ⟨od, J, _⟩ := OA.look
    have ga : s.heap.get? a = some (PySem.W.instObj C dx) := OA.obj
    rcases c with rfl | ⟨b, dy, gs, rfl, hb⟩
    · cases ry
      show wpAny (model X.prog X.w) X.A (richCompare .Eq _ _) (EP X pins σ Q) X.xe s
      refine HN.rc_none hu I.kIn J O.hm O.hs X.prog X.w X.xe _ ⟨.bl false, H, I, rfl, ?_⟩
      rw [decide_eq_false (fun e => nomatch e)] at q
      exact q
    · cases ry
      obtain ⟨mB, OB, _⟩ := ins_get I.hok hb
      obtain ⟨od', J', _⟩ := OB.look
      have gb : s.heap.get? b = some (PySem.W.instObj C dy) := OB.obj
      show wpAny (model X.prog X.w) X.A (richCompare .Eq _ _) (EP X pins σ Q) X.xe s
      by_cases hab : a = b
      · subst hab
        refine rc_self hu I.kIn J O.hm O.hs X.prog X.w X.xe _ ⟨.bl true, H, I, rfl, ?_⟩
        rw [decide_eq_true rfl] at q
        exact q
      · refine rc_other hu I.kIn J J' ga gb (by intro e; cases e) (by intro e; cases e) hab O.hm O.hs X.prog X.w X.xe _ ⟨.bl false, H, I, rfl, ?_⟩
        rw [decide_eq_false (fun e => hab (V.ref.inj e))] at q
        exact q
  · cases rx
    cases ry
    obtain ⟨mB, OB, _⟩ := ins_get I.hok hb
    obtain ⟨od', J', _⟩ := OB.look
    show wpAny (model X.prog X.w) X.A (richCompare .Eq _ _) (EP X pins σ Q) X.xe s
    refine rc_none2 hu I.kIn J' O.hm O.hs O.hn X.prog X.w X.xe _ ⟨.bl false, H, I, rfl, ?_⟩
    rw [decide_eq_false (fun e => nomatch e)] at q
    exact q
end Rd

set_option Elab.async false
set_option linter.all false
set_option maxRecDepth 100000
set_option autoImplicit false
set_option maxHeartbeats 4000000
namespace Rd
open PySem PySem.Spec PyProof.Rows L2
section
variable {σ : L2.St} {H : Hp} {Q : VK} {K : PySem.W.Frag}
theorem w_int1 {R : Int → Prop} {S : Bool → Prop} {i : Int} (q : R i) : (∃ i', [V.int i] = [V.int i'] ∧ R i') ∨ (∃ k, [V.int i] = [V.bl k] ∧ S k) := .inl ⟨i, rfl, q⟩
theorem w_intB {R : Int → Prop} {S : Bool → Prop} {k : Bool} (q : S k) : (∃ i', [V.bl k] = [V.int i'] ∧ R i') ∨ (∃ k', [V.bl k] = [V.bl k'] ∧ S k') := .inr ⟨k, rfl, q⟩
theorem w_gsub {to ti : TE} {t : TSet} {v : V} {Q : L2.St → Hp → Prop} (h : to σ H fun o H1 => ti σ H1 fun i H2 => t o i v H2 fun H3 => Q σ H3) : gSub to ti t v σ H Q := h
theorem w_setL {p : Addr} {xs : List V} {k : Int} {j : Nat} {v : V} {Q : Hp → Prop} (h : H p = some (.lst xs)) (hj : ixN xs.length k = some j) (q : Q (upd H p (.lst (xs.set j v)))) : rSetL (.ref p) (.int k) v H Q := ⟨p, xs, k, j, rfl, rfl, h, hj, q⟩
theorem w_for {wi : TI} {g : TG} {tb : TS} {D : Ends} (h : wi σ H fun J H1 => ∃ W : Nat → Nat → L2.St → Hp → Prop, (∃ m, W 0 m σ H1) ∧ ∀ i m σ H, W i m σ H →
  (J.stop i H ∧ D.nx σ H) ∨ (J.go i H ∧ ∃ N : L2.St → Hp → Prop, (∀ σ' H', N σ' H' → ∃ m', m' < m ∧ W (i + 1) m' σ' H') ∧ ∀ x H', J.yld i H x H' → g x σ H' fun σ2 H2 => tb { D with nx := N, ct := N, bk := D.nx } σ2 H2)) : tFor wi g tb D σ H := h
def Rng1K (R : It → Hp → Prop) (j : Int) (H : Hp) : Prop := -(2 ^ 62) ≤ j ∧ j < 2 ^ 62 ∧ R (Itr 0 j.toNat) H
theorem w_rng1 {ta : TA} {R : It → Hp → Prop} (h : ta σ H fun vs H1 => ∃ j : Int, vs = [.int j] ∧ -(2 ^ 62) ≤ j ∧ j < 2 ^ 62 ∧ R (Itr 0 j.toNat) H1) : iRng1 ta σ H R := h
theorem w_iList {tl : TE} {R : It → Hp → Prop} (h : tl σ H fun x H1 => ∃ a, x = .ref a ∧ (∃ xs, SqL K H1 a xs) ∧ R (Itl K a) H1) : iList K tl σ H R := h
theorem w_iTup {tl : TE} {R : It → Hp → Prop} (h : tl σ H fun x H1 => ∃ a, x = .ref a ∧ (∃ xs, SqT K H1 a xs) ∧ R (Itt K a) H1) : iTup K tl σ H R := h
theorem w_rng1I {R : Int → Prop} {j : Int} (h1 : -(2 ^ 62) ≤ j) (h2 : j < 2 ^ 62) (q : R j) : ∃ j' : Int, [V.int j] = [V.int j'] ∧ -(2 ^ 62) ≤ j' ∧ j' < 2 ^ 62 ∧ R j' := ⟨j, rfl, h1, h2, q⟩
theorem w_iListI {R : Addr → Prop} {a : Addr} {xs : List V} (h : H a = some (.lst xs)) (q : R a) : ∃ a', V.ref a = .ref a' ∧ (∃ xs, SqL K H a' xs) ∧ R a' := ⟨a, rfl, ⟨xs, SqL.of h⟩, q⟩
theorem w_iTupI {R : Addr → Prop} {a : Addr} {xs : List V} (h : H a = some (.tup xs)) (q : R a) : ∃ a', V.ref a = .ref a' ∧ (∃ xs, SqT K H a' xs) ∧ R a' := ⟨a, rfl, ⟨xs, SqT.of h⟩, q⟩
/-- xs + ys, lists -/
theorem w_cat {l b : Addr} {xs zs : List V} (h : H l = some (.lst xs)) (h' : H b = some (.lst zs)) (hz : xs.length + zs.length ≤ sizeLine) (q : ∀ p H', Same H H' → H p = none → H' p = some (.lst (xs ++ zs)) → Q (.ref p) H') : rCat (.ref l) (.ref b) H Q :=
  ⟨l, b, xs, zs, rfl, rfl, h, h', hz, fun p hp => q p _ (same_upd hp) hp upd_same⟩
end
theorem cmulW {i j : Int} (h : (Builtin.Int.intBits i : Int) + (Builtin.Int.intBits j : Int) ≤ 134217728) : CMulX i j := h
theorem cpow {i j : Int} (h0 : 0 ≤ j) (h1 : j ≤ 1000000) (h2 : i.natAbs < 2 ^ 64) : CPow i j := ⟨h0, h1, h2⟩
end Rd

set_option Elab.async false
set_option linter.all false
set_option maxRecDepth 100000
set_option autoImplicit false
set_option maxHeartbeats 4000000
namespace Rd
open PySem PySem.Spec PyProof.Rows L2
theorem pe_nev {X : Cx} {e : Expr} : PE X e (fun _ _ _ => False) := ⟨fun _ _ _ _ _ _ h => h.elim⟩
section
variable {σ : L2.St} {H : Hp}
theorem w_while {tc : TT} {tb : TS} {D : Ends} (W : Nat → L2.St → Hp → Prop) {m : Nat} (h0 : W m σ H)
    (h : ∀ m σ H, W m σ H → tc σ H fun b H1 => if b = true then ∃ N : L2.St → Hp → Prop, (∀ σ' H', N σ' H' → ∃ m', m' < m ∧ W m' σ' H') ∧ tb { D with nx := N, ct := N, bk := D.nx } σ H1 else D.nx σ H1) : tWhile tc tb D σ H := ⟨W, ⟨m, h0⟩, h⟩
theorem w_turn {W : Nat → L2.St → Hp → Prop} {m : Nat} {tb : TS} {D : Ends} (h : tb { D with nx := fun σ' H' => ∃ m', m' < m ∧ W m' σ' H', ct := fun σ' H' => ∃ m', m' < m ∧ W m' σ' H', bk := D.nx } σ H) : ∃ N : L2.St → Hp → Prop, (∀ σ' H', N σ' H' → ∃ m', m' < m ∧ W m' σ' H') ∧ tb { D with nx := N, ct := N, bk := D.nx } σ H := ⟨_, fun _ _ z => z, h⟩
end
/-- a if c else b, as a test -/
def tIfT (tc t u : TT) : TT := fun σ H Q => tc σ H fun c H1 => if c = true then t σ H1 Q else u σ H1 Q
theorem pt_ifExp {X : Cx} {c a b : Expr} {pos : Pos} {tc t u : TT} (hc : PT X c tc) (ha : PT X a t) (hb : PT X b u) : PT X (.IfExp c a b pos) (tIfT tc t u) := by
  refine ⟨fun pins s σ H Q I h => ?_⟩
  have e : ∀ wh, isTrue (.IfExp c a b pos) X.env wh = (do if ← isTrue c X.env (eval c X.env) then isTrue a X.env (eval a X.env) else isTrue b X.env (eval b X.env)) := fun wh => by rfl
  rw [e]
  refine wpAny_bind (thn (hc.run pins s σ H _ I h) fun d s1 ⟨H1, I1, q1⟩ => ?_)
  cases d with
  | true => exact ha.run pins s1 σ H1 Q I1 (by rw [if_pos rfl] at q1; exact q1)
  | false => exact hb.run pins s1 σ H1 Q I1 (by rw [if_neg Bool.false_ne_true] at q1; exact q1)
section
variable {σ : L2.St} {H : Hp}
theorem w_ifT {tc t u : TT} {Q : Bool → Hp → Prop} (h : tc σ H fun c H1 => if c = true then t σ H1 Q else u σ H1 Q) : tIfT tc t u σ H Q := h
theorem w_chain {r r' : R2} {ta tb tc : TE} {Q : VK} (h : ta σ H fun x H1 => tb σ H1 fun y H2 => r x y H2 fun z H3 => ∃ k, z = .bl k ∧ if k = true then tc σ H3 fun y' H4 => r' y y' H4 Q else Q (.bl false) H3) : tChain r r' ta tb tc σ H Q := h
/-- data, compared -/
theorem w_eqD {K : PySem.W.Frag} {x y : V} {d e : PyData} {Q : VK} (h1 : Dp K H x d) (h2 : Dp K H y e) (s1 : SeqAt.shaped d = true) (s2 : SeqAt.shaped e = true) (q : Q (.bl (PyData.eqv d e)) H) : rEqD K x y H Q := ⟨d, e, h1, h2, s1, s2, q⟩
end
end Rd

set_option Elab.async false
set_option linter.all false
set_option maxRecDepth 100000
set_option autoImplicit false
set_option maxHeartbeats 4000000
namespace Rd
open PySem PySem.Spec PyProof.Rows L2
/-- list + list, each as it stands, ours or the document's -/
def rCatS (K : PySem.W.Frag) : R2 := fun x y H Q => ∃ l b xs zs, x = .ref l ∧ y = .ref b ∧ SqL K H l xs ∧ SqL K H b zs ∧ xs.length + zs.length ≤ sizeLine ∧ ∀ p, H p = none → Q (.ref p) (upd H p (.lst (xs ++ zs)))
theorem op_catS {X : Cx} : OpR X (binaryOp .Add) (rCatS X.K) := by
  intro pins s σ H x y v u Q I rx ry h
  obtain ⟨l, b, xs, zs, rfl, rfl, hH, hB, hz, q⟩ := h
  cases rx
  cases ry
  obtain ⟨its, r, e, z⟩ := I.list hH
  obtain ⟨its2, r2, e2, z2⟩ := I.list hB
  have l1 := r.length
  have l2 := r2.length
  obtain ⟨⟨cls, dd, data, sl⟩, n, ho, hc, hd, hda⟩ := e
  obtain ⟨⟨cls2, dd2, data2, sl2⟩, n2, ho2, hc2, hd2, hda2⟩ := e2
  simp only at hc hd hda hc2 hd2 hda2
  subst hc hd hda hc2 hd2 hda2
  have ea : its.toArray ++ its2.toArray = (its ++ its2).toArray := by simp
  refine concat_meets ⟨_, ho, rfl⟩ ⟨_, ho2, rfl⟩ noFill_list_add seq_list_add PySem.F.slot_list_add PySem.F.entry_list_add (PySem.F.args_list_add_2 _ _) (list_addW l b its.toArray its2.toArray n n2 none none sl sl2 (by rw [List.size_toArray, List.size_toArray]; omega)) ⟨ho, ho2, ?_⟩
  rw [ea]
  exact ⟨.ref _, _, I.lnew (t' := s.toks) (r.append r2) (by rw [List.length_append]; omega), rfl, q _ I.fresh⟩
section
variable {σ : L2.St} {H : Hp} {Q : VK} {K : PySem.W.Frag}
theorem w_catS {l b : Addr} {xs zs : List V} (h : SqL K H l xs) (h' : H b = some (.lst zs)) (hz : xs.length + zs.length ≤ sizeLine) (q : ∀ p H', Same H H' → H p = none → H' p = some (.lst (xs ++ zs)) → Q (.ref p) H') : rCatS K (.ref l) (.ref b) H Q :=
  ⟨l, b, xs, zs, rfl, rfl, h, SqL.of h', hz, fun p hp => q p _ (same_upd hp) hp upd_same⟩
theorem w_sl {r : V → Option Int → Option Int → Hp → VK → Prop} {te : TE} {tl th : TO} (h : te σ H fun x H1 => tl σ H1 fun l H2 => th σ H2 fun u H3 => r x l u H3 Q) : tSl r te tl th σ H Q := h
theorem w_slL {a : Addr} {xs : List V} {lo hi : Option Int} (h : H a = some (.lst xs)) (q : ∀ p H', Same H H' → H p = none → H' p = some (.lst (cutV xs lo hi)) → Q (.ref p) H') : rSlL K (.ref a) lo hi H Q :=
  ⟨a, xs, rfl, SqL.of h, fun p hp => q p _ (same_upd hp) hp upd_same⟩
theorem w_noPart {Q : Option Int → Hp → Prop} (q : Q none H) : tNoPart σ H Q := q
theorem w_part {te : TE} {Q : Option Int → Hp → Prop} (h : te σ H fun x H' => ∃ i, x = .int i ∧ Q (some i) H') : tPart te σ H Q := h
theorem w_partI {R : Int → Prop} {i : Int} (h : R i) : ∃ j, V.int i = .int j ∧ R j := ⟨i, rfl, h⟩
theorem _root_.L2.SqL.same {a : Addr} {xs : List V} {H' : Hp} (h : SqL K H a xs) (s : Same H H') : SqL K H' a xs := by
  rcases h with h | h
  · rcases h with h | ⟨o, h⟩
    · exact .inl (.inl (s _ _ h))
    · exact .inl (.inr ⟨o, s _ _ h⟩)
  · exact .inr h
theorem cut_mem {xs : List V} {lo hi : Option Int} {x : V} (h : x ∈ cutV xs lo hi) : x ∈ xs := List.mem_of_mem_drop (List.mem_of_mem_take h)
end
theorem w_par3 {i j l : Nat} {ta : TA} {D : Ends} {σ : L2.St} {H : Hp} (h : ta σ H fun vs H1 => ∃ v1 v2 v3, vs = [v1, v2, v3] ∧ D.nx (((σ.set i (some v1)).set j (some v2)).set l (some v3)) H1) : tPar3 i j l ta D σ H := h
end Rd
namespace Nu
open PySem L2
theorem p70 : (2 ^ 70 : Nat) = 1180591620717411303424 := by decide
theorem ixN_nat {n : Nat} {r : Int} (h0 : 0 ≤ r) (h1 : r < n) : ixN n r = some r.toNat := by
  unfold ixN
  rw [if_pos h0, if_pos h1]
end Nu

set_option Elab.async false
set_option linter.all false
set_option maxRecDepth 100000
set_option autoImplicit false
set_option maxHeartbeats 4000000
/-! == and != by a text's own __eq__ -/
namespace Rd
open PySem PySem.Spec PyProof.Rows PySem.SeqAt L2
section
variable {prog : Program} {w : World} {A : Around} {E : Value → Shared → Prop} {s : Shared} {K : PySem.W.Frag} {x y C f : Addr} {ox oy : Obj} {od od' : Option Obj}
theorem ifBound_objNe {M : Model} {args : List Value} {Q : Option Value → Shared → Prop} (X : K.In s.heap) (I : PySem.W.InstAt s.heap x ox C od) (hs : PySem.W.findIn K (.ref C) "__ne__" = some (some (.builtin "object.__ne__")))
    (h : wpAny M A (call (.builtin "object.__ne__") (.ref x :: args)) (fun v => Q (some v)) E s) : wpAny M A (callSpecialIfBound? (.ref x) "__ne__" args) Q E s := by
  simp only [callSpecialIfBound?, bindSpecialIfBound?]
  refine wpAny_holding (wpAny_bind (wpAny_bind (wpAny_bind (I.type.here ((PySem.W.looks_findIn X hs).here ?_)))))
  refine wpAny_bind (wpAny_askSetting (wpAny_ite ?_))
  have fin : wpAny M A (call (.builtin "object.__ne__") ([.ref x] ++ args) >>= fun v => pure (some v)) Q E s := wpAny_bind (wpAny_mono h (fun v s' h' => wpAny_pure h') fun _ _ h' => h')
  split
  · exact wpAny_bind (wpAny_of_eq (F.cmp_object.ne.bind _) (wpAny_pure (by exact fin)))
  · exact wpAny_tryCatch (wpAny_bind (wpAny_of_eq (F.cmp_object.ne.bind _) (wpAny_pure (by exact fin))))
theorem objNe_own (X : K.In s.heap) (I : PySem.W.InstAt s.heap x ox C od) (hs : PySem.W.findIn K (.ref C) "__eq__" = some (some (.ref f))) (hf : PySem.W.isFn K (.ref f) = true) (hu : A.units < cLine) {Q : Fin → Shared → Prop}
    (hcall : wpAny (model prog w) A (call (.ref f) [.ref x, .ref y]) (fun v s' => ∃ b, v = .bool b ∧ Q (.done (.ret (.bool (!b)))) s') E s) :
    wpAny (model prog w) A (Builtin.«object.__ne__» ⟨[.ref x, .ref y], []⟩) Q E s := by
  obtain ⟨h, g, d, t, os⟩ := s
  unfold Builtin.«object.__ne__»
  repeat (first
    | with_reducible refine wpAny_cRoomFor hu ?_
    | (refine wpAny_bind (m := callSpecialIfBound? (.ref x) (Str.ofString "__eq__") [.ref y])
        (PySem.W.ifBound_K X I hs hf (wpAny_mono hcall (fun r s' hr => by
          obtain ⟨b, rfl, hq⟩ := hr
          repeat (first | exact hq | exact wpAny_pure hq | exact wpAny_truthy_bool hq | (refine wpAny_bind (m := truthy (.bool _)) (wpAny_truthy_bool ?_)) | wp_step)) fun _ _ e => e)))
    | wp_step)
theorem rcNe_own {Q : Value → Shared → Prop} (hu : A.units + 1 < cLine) (X : K.In s.heap) (I : PySem.W.InstAt s.heap x ox C od) (I' : PySem.W.InstAt s.heap y oy C od') (hm : PySem.W.mroIn K C (.type "object") = some true)
    (hn : PySem.W.findIn K (.ref C) "__ne__" = some (some (.builtin "object.__ne__"))) (hs : PySem.W.findIn K (.ref C) "__eq__" = some (some (.ref f))) (hf : PySem.W.isFn K (.ref f) = true)
    (hcall : wpAny (model prog w) A.in1 (call (.ref f) [.ref x, .ref y]) (fun v s' => ∃ b, v = .bool b ∧ Q (.bool (!b)) s') E s) :
    wpAny (model prog w) A (richCompare .NotEq (.ref x) (.ref y)) Q E s := by
  have one : wpAny (model prog w) A (tryCompare (.ref x) "__ne__" (.ref y)) (fun r s' => ∃ b, r = some (.bool b) ∧ Q (.bool b) s') E s := by
    unfold tryCompare
    refine wpAny_bind (ifBound_objNe X I hn (wpAny_call (codeAny_call_builtin F.cmp_object.ne.plain F.cmpEntry_ne (PySem.W.check_slot F.cmpKind_ne F.cmpSplit_ne (I.type.andThen (PySem.W.looks_mroIn X hm)) (F.cmpArgs_ne _ _)
      (objNe_own X I hs hf hu (wpAny_mono hcall (fun v s' hv => ?_) fun _ _ e => e))))))
    obtain ⟨b, rfl, hq⟩ := hv
    exact ⟨b, rfl, wpAny_pure ⟨_, rfl, hq⟩⟩
  simp only [richCompare, cmpInfo_NotEq, oneThing_ref]
  refine wpAny_holding (wpAny_bind (wpAny_cRoomFor (Nat.lt_of_succ_lt hu) ?_))
  refine wpAny_bind (I.type.here ?_)
  refine wpAny_bind (I'.type.here ?_)
  rw [if_neg (by simp)]
  refine wpAny_bind (wpAny_pure ?_)
  simp only [Bool.false_eq_true, if_false, Bool.not_false, if_true]
  refine wpAny_bind (m := tryCompare (.ref x) _ (.ref y)) (wpAny_mono one (fun r s1 z => ?_) fun _ _ e => e)
  obtain ⟨b, rfl, hq⟩ := z
  exact wpAny_pure hq
end
/-- what a class must have for == and != by its own __eq__ -/
structure EqC (K : PySem.W.Frag) (C : Addr) : Prop where
  hm : PySem.W.mroIn K C (.type "object") = some true
  hn : PySem.W.findIn K (.ref C) "__ne__" = some (some (.builtin "object.__ne__"))
def rOwn (C : Addr) (g : Bool → Bool) (sp : Sp) : R2 := fun x y H Q => ∃ a b dx dy fs gs, x = .ref a ∧ y = .ref b ∧ H a = some (.ins C dx fs) ∧ H b = some (.ins C dy gs) ∧ sp [.ref a, .ref b] H (fun v H' => ∃ k, v = .bl k ∧ Q (.bl (g k)) H') E0
section
variable {X : Cx} {k j : Nat} {C : Addr} {ps : List Str} {sp : Sp}
theorem op_eqOwn (h : KnM X.prog X.w X.K X.mg X.base CX0 k C "__eq__" ps sp) (hr : Room j X.A) (hj : k ≤ j := by decide) : OpR X (compareOp .Eq) (rOwn C id sp) := by
  obtain ⟨f, fd, M, b, F⟩ := h.ex
  intro pins s σ H x y v u Q I rx ry q
  obtain ⟨a, c, dx, dy, fs, gs, rfl, rfl, ha, hc, q⟩ := q
  cases rx
  cases ry
  obtain ⟨mA, J, _⟩ := ins_get I.hok ha
  obtain ⟨mB, J', _⟩ := ins_get I.hok hc
  obtain ⟨od, J, _⟩ := J.look
  obtain ⟨od', J', _⟩ := J'.look
  obtain ⟨m, hF⟩ := I.fr
  show wpAny (model X.prog X.w) X.A (richCompare .Eq (.ref a) (.ref c)) (EP X pins σ Q) X.xe s
  refine PySem.W.cmp_K (op := .Eq) (tb := .ref C) (hr.mono hj).units0 hF I.ok.mod.kin J J'.type (by simp [PySem.W.notFirst]) M.at_ M.fn ?_
  refine wpAny_mono (run_fn (us := [.ref a, .ref c]) (vs := [.ref a, .ref c]) F (hr.mono hj) b .nil pass0 I (.cons rfl (.cons rfl .nil)) q) (fun r s' z => ?_) fun _ _ e => e
  obtain ⟨z, H', I', rz, k', ez, hq⟩ := z
  subst ez
  cases rz
  exact ⟨.bl k', H', I', rfl, hq⟩
theorem op_neOwn (h : KnM X.prog X.w X.K X.mg X.base CX0 k C "__eq__" ps sp) (O : EqC X.K C) (hr : Room j X.A) (hj : k + 1 ≤ j := by decide) : OpR X (compareOp .NotEq) (rOwn C not sp) := by
  obtain ⟨f, fd, M, b, F⟩ := h.ex
  intro pins s σ H x y v u Q I rx ry q
  obtain ⟨a, c, dx, dy, fs, gs, rfl, rfl, ha, hc, q⟩ := q
  cases rx
  cases ry
  obtain ⟨mA, J, _⟩ := ins_get I.hok ha
  obtain ⟨mB, J', _⟩ := ins_get I.hok hc
  obtain ⟨od, J, _⟩ := J.look
  obtain ⟨od', J', _⟩ := J'.look
  have hr' : Room (k + 1) X.A := hr.mono hj
  show wpAny (model X.prog X.w) X.A (richCompare .NotEq (.ref a) (.ref c)) (EP X pins σ Q) X.xe s
  refine rcNe_own (by have := hr'.un; omega) I.kIn J J' O.hm O.hn M.at_ M.fn ?_
  have e0 : Env0 X.prog X.w X.K X.mg X.base X.A.in1 X.stack s H := by
    have e := I.env0
    exact ⟨e.frames, e.mod, e.bs, e.bsz, e.funs, e.frf, e.hok, e.bare⟩
  have hl := F.len _ _ _ _ q
  have r2 : Vals [V.ref a, V.ref c] [Value.ref a, Value.ref c] := .cons rfl (.cons rfl .nil)
  refine wpAny_call (codeAny_mono (F.run X.A.in1 X.stack s H ⟨[.ref a, .ref c], []⟩ [.ref a, .ref c] [.ref a, .ref c] _ E0 hr'.in1 e0 (by
    have := b s [.ref a, .ref c] I.kIn (by simpa using hl)
    simpa using this) r2 q) fun r s' hq => ?_)
  cases r with
  | error e => exact pass0 pins σ H s e s' I hq
  | ok fl =>
    cases fl with
    | ret w =>
      obtain ⟨z, H', I', rz, k', ez, hq2⟩ := I.after hq
      subst ez
      cases rz
      exact ⟨k', rfl, .bl (!k'), H', I', rfl, hq2⟩
    | next => exact False.elim hq
    | brk => exact False.elim hq
    | cont => exact False.elim hq
end
section
variable {C a b dx dy : Addr} {fs gs : List (Str × V)} {g : Bool → Bool} {sp : Sp} {H : Hp} {Q : VK}
theorem w_own (ha : H a = some (.ins C dx fs)) (hb : H b = some (.ins C dy gs)) (q : sp [.ref a, .ref b] H (fun v H' => ∃ k, v = .bl k ∧ Q (.bl (g k)) H') E0) : rOwn C g sp (.ref a) (.ref b) H Q :=
  ⟨a, b, dx, dy, fs, gs, rfl, rfl, ha, hb, q⟩
end
end Rd

set_option Elab.async false
set_option linter.all false
set_option maxRecDepth 100000
set_option autoImplicit false
set_option maxHeartbeats 4000000
namespace Nu
open PySem PySem.Spec PyProof.Rows L2 Rd
def top (i : Nat) : Stmt := PySem.Challenge.pw_walkmade_k06_texts_of_numbers.main.body.getD i (.Pass ⟨0, 0, 0, 0⟩)
abbrev s_Float_init : Stmt := inClass (top 12) 0
abbrev s_Float_is_finite : Stmt := inClass (top 12) 4
abbrev s_Float_ratio : Stmt := inClass (top 12) 5
abbrev s_is_plain : Stmt := top 13
abbrev s_reduced : Stmt := top 14
abbrev s_fits : Stmt := top 15
abbrev s_sign_of : Stmt := top 16
abbrev s_infinity : Stmt := top 18
abbrev s_nearest : Stmt := top 19
abbrev s_to_float : Stmt := top 21
/-! ### floats as data -/
inductive Fl where
  | fin (s t p : Int)
  | inf (s : Int)
  | nan
  deriving DecidableEq
def Fl.s : Fl → Int
  | .fin s _ _ => s
  | .inf s => s
  | .nan => 1
def Fl.t : Fl → V
  | .fin _ t _ => .int t
  | .inf _ => .str "inf"
  | .nan => .str "nan"
def Fl.p : Fl → Int
  | .fin _ _ p => p
  | _ => 0
def flds (s : Int) (t : V) (p : Int) : List (Str × V) := putF "power" (.int p) (putF "top" t (putF "sign" (.int s) []))
theorem ne_st : ¬ ("sign" : Str) = "top" := by decide +kernel
theorem ne_sp : ¬ ("sign" : Str) = "power" := by decide +kernel
theorem ne_tp : ¬ ("top" : Str) = "power" := by decide +kernel
theorem flds_s (s : Int) (t : V) (p : Int) : (flds s t p).lookup ("sign" : Str) = some (.int s) := by
  unfold flds
  rw [lookup_putF, if_neg ne_sp, lookup_putF, if_neg ne_st, lookup_putF, if_pos rfl]
theorem flds_t (s : Int) (t : V) (p : Int) : (flds s t p).lookup ("top" : Str) = some t := by
  unfold flds
  rw [lookup_putF, if_neg ne_tp, lookup_putF, if_pos rfl]
theorem flds_p (s : Int) (t : V) (p : Int) : (flds s t p).lookup ("power" : Str) = some (.int p) := by
  unfold flds
  rw [lookup_putF, if_pos rfl]
theorem flds_no (s : Int) (t : V) (p : Int) {m : Str} (h1 : ¬ m = "sign") (h2 : ¬ m = "top") (h3 : ¬ m = "power") : (flds s t p).lookup m = none := by
  unfold flds
  rw [lookup_putF, if_neg h3, lookup_putF, if_neg h2, lookup_putF, if_neg h1]
  rfl
/-- the float f stands at a -/
def FlAt (C : Addr) (H : Hp) (a : Addr) (f : Fl) : Prop := ∃ dx, H a = some (.ins C dx (flds f.s f.t f.p))
theorem FlAt.same {C : Addr} {H H' : Hp} {a : Addr} {f : Fl} (h : FlAt C H a f) (s : Same H H') : FlAt C H' a f := let ⟨dx, e⟩ := h; ⟨dx, s _ _ e⟩
/-- a float that stands is well made -/
def Fl.ok : Fl → Prop
  | .fin s t p => (s = 1 ∨ s = -1) ∧ 0 ≤ t ∧ t < 9007199254740992 ∧ (t = 0 → p = 0) ∧ (t ≠ 0 → -1074 ≤ p ∧ bits t + p ≤ 1024 ∧ t % 2 = 1)
  | .inf s => s = 1 ∨ s = -1
  | .nan => True
/-! ### what the text has -/
structure ClsTy (K : PySem.W.Frag) (C : Addr) : Prop where
  ha : PySem.W.findIn K (.ref C) "__class__" = some (some (.builtin "object.__class__"))
  hn : PySem.W.specialIn K (.builtin "object.__class__") "__get__" = some (some (.builtin "getset_descriptor.__get__"))
  htk : PySem.W.takesIn K (.builtin "object.__class__") = some true
  hm : PySem.W.mroIn K C (.type "object") = some true
structure All (K : PySem.W.Frag) (mg : Str → Option Value) (CF : Addr) : Prop where
  b_isinstance : mg "isinstance" = none
  b_int : mg "int" = none
  b_str : mg "str" = none
  b_bool : mg "bool" = none
  b_abs : mg "abs" = none
  b_max : mg "max" = none
  b_min : mg "min" = none
  b_divmod : mg "divmod" = none
  b_len : mg "len" = none
  b_range : mg "range" = none
  c_LEAST : ∃ t, mg "LEAST" = some (.int (-9223372036854775808) t)
  c_MOST : ∃ t, mg "MOST" = some (.int 9223372036854775807 t)
  c_ROOM : ∃ t, mg "ROOM" = some (.int 9007199254740992 t)
  c_LOWEST : ∃ t, mg "LOWEST" = some (.int (-1074) t)
  c_TOO_GREAT : ∃ t, mg "TOO_GREAT" = some (.int 1024 t)
  g_Float : mg "Float" = some (.ref CF)
  l_Float : Cls K CF
  y_Float : ClsTy K CF
  n_sign : NoAttr K CF "sign"
  n_top : NoAttr K CF "top"
  n_power : NoAttr K CF "power"
  i_Fint : PySem.W.kitOne K (.ref CF) (.type "int") = some false
  i_Fbool : PySem.W.kitOne K (.ref CF) (.type "bool") = some false
  i_Fstr : PySem.W.kitOne K (.ref CF) (.type "str") = some false
  i_intF : PySem.W.kitOne K (.type "int") (.ref CF) = some false
  i_boolF : PySem.W.kitOne K (.type "bool") (.ref CF) = some false
  i_strF : PySem.W.kitOne K (.type "str") (.ref CF) = some false
  i_nonF : PySem.W.kitOne K (.type "NoneType") (.ref CF) = some false
  x_init : TxC K mg "Float" CF "Float.__init__" s_Float_init ["self", "sign", "top", "power"]
  x_is_finite : TxM K CF "is_finite" "Float.is_finite" s_Float_is_finite ["self"]
  x_ratio : TxM K CF "ratio" "Float.ratio" s_Float_ratio ["self"]
  x_is_plain : Tx K mg "is_plain" "is_plain" s_is_plain ["number"]
  x_reduced : Tx K mg "reduced" "reduced" s_reduced ["top", "power"]
  x_fits : Tx K mg "fits" "fits" s_fits ["top", "power"]
  x_sign_of : Tx K mg "sign_of" "sign_of" s_sign_of ["is_negative"]
  x_infinity : Tx K mg "infinity" "infinity" s_infinity ["sign"]
  x_nearest : Tx K mg "nearest" "nearest" s_nearest ["sign", "top", "bottom"]
  x_to_float : Tx K mg "to_float" "to_float" s_to_float ["number"]
/-! ### what isinstance says of a value -/
def Says (K : PySem.W.Frag) (CF : Addr) (H : Hp) (x : V) (pl bo st fl : Bool) : Prop :=
  ∃ t, TyX K H x t ∧ PySem.W.kitOne K t (.type "int") = some (pl || bo) ∧ PySem.W.kitOne K t (.type "bool") = some bo ∧ PySem.W.kitOne K t (.type "str") = some st ∧ PySem.W.kitOne K t (.ref CF) = some fl
local macro_rules | `(tactic| walk_at "hp") => `(tactic| first | assumption | (refine same_get ?sm ?_; (case sm => assumption); walk_at "hp"))
local macro_rules | `(tactic| walk_at "rd") => `(tactic| first
  | (with_reducible show Ends.nx _ _ _; with_reducible refine w_nx ?_)
  | with_reducible refine w_rt ?_
  | (with_reducible show Ends.bk _ _ _; with_reducible refine w_bk ?_)
  | (with_reducible show Ends.ct _ _ _; with_reducible refine w_ct ?_)
  | with_reducible refine w_seq ?_
  | with_reducible refine w_next ?_
  | with_reducible refine w_ret ?_
  | with_reducible refine w_ifS ?_
  | with_reducible refine w_asg ?_
  | with_reducible refine w_name ?_
  | with_reducible refine w_par ?_
  | with_reducible refine w_parI ?_
  | with_reducible refine w_ii ?_
  | with_reducible refine w_i1 ?_
  | with_reducible refine w_drop ?_
  | with_reducible refine w_sFld ?_
  | ((with_reducible refine' w_var ?rdh ?_); (case rdh => exact rfl))
  | with_reducible refine w_c ?_
  | with_reducible refine w_op ?_
  | with_reducible refine w_un ?_
  | with_reducible refine w_I0 ?_
  | with_reducible refine w_U ?_
  | with_reducible refine w_bits ?_
  | with_reducible refine w_bitsI ?_
  | with_reducible refine w_tup ?_
  | with_reducible refine w_lst ?_
  | with_reducible refine w_nil ?_
  | with_reducible refine w_cons ?_
  | with_reducible refine w_fld ?_
  | with_reducible refine w_call ?_
  | with_reducible refine w_make ?_
  | with_reducible refine w_makeD ?_
  | with_reducible refine w_nn ?_
  | with_reducible refine w_subB ?_
  | with_reducible refine w_meth ?_
  | with_reducible refine w_cb ?_
  | with_reducible refine w_test ?_
  | with_reducible refine w_B ?_
  | with_reducible refine w_bl ?_
  | with_reducible refine w_andV ?_
  | with_reducible refine w_orV ?_
  | with_reducible refine w_notV ?_
  | with_reducible refine w_and ?_
  | with_reducible refine w_or ?_
  | with_reducible refine w_not ?_
  | with_reducible refine w_if ?_
  | with_reducible refine w_gnil ?_
  | with_reducible refine w_gcons ?_
  | with_reducible refine iT ?_
  | with_reducible refine iF ?_
  | with_reducible refine w_eqI ?_
  | with_reducible refine w_neI ?_
  | with_reducible refine w_eqS ?_
  | with_reducible refine w_eqIS ?_
  | with_reducible refine w_eqSI ?_)

section
variable {P : Program} {w : World} {K : PySem.W.Frag} {mg : Str → Option Value} {base : Heap} {CF : Addr}
theorem says_int (T : All K mg CF) {H : Hp} {i : Int} : Says K CF H (.int i) true false false false :=
  ⟨_, .base (.int i), kit_ty (by decide +kernel), kit_ty (by decide +kernel), kit_ty (by decide +kernel), T.i_intF⟩
theorem says_bl (T : All K mg CF) {H : Hp} {b : Bool} : Says K CF H (.bl b) false true false false :=
  ⟨_, .base (.bl b), kit_ty (by decide +kernel), kit_ty (by decide +kernel), kit_ty (by decide +kernel), T.i_boolF⟩
theorem says_str (T : All K mg CF) {H : Hp} {x : Str} : Says K CF H (.str x) false false true false :=
  ⟨_, .base (.str x), kit_ty (by decide +kernel), kit_ty (by decide +kernel), kit_ty (by decide +kernel), T.i_strF⟩
theorem says_non (T : All K mg CF) {H : Hp} : Says K CF H .non false false false false :=
  ⟨_, .base .non, kit_ty (by decide +kernel), kit_ty (by decide +kernel), kit_ty (by decide +kernel), T.i_nonF⟩
theorem kit_self (K : PySem.W.Frag) (C : Addr) : PySem.W.kitOne K (.ref C) (.ref C) = some true := by
  unfold PySem.W.kitOne
  rw [if_pos (by simp)]
theorem ty_ins {C : Addr} (c : Cls K C) (y : ClsTy K C) {H : Hp} {a dx : Addr} {fs : List (Str × V)} (h : H a = some (.ins C dx fs)) : TyX K H (.ref a) (.ref C) := .base (.ins h c y.ha y.hn y.htk y.hm)
theorem says_fl (T : All K mg CF) {H : Hp} {a dx : Addr} {fs : List (Str × V)} (h : H a = some (.ins CF dx fs)) : Says K CF H (.ref a) false false false true :=
  ⟨_, ty_ins T.l_Float T.y_Float h, T.i_Fint, T.i_Fbool, T.i_Fstr, kit_self K CF⟩
/-! ### is_plain -/
def spPlain (K : PySem.W.Frag) (CF : Addr) : Sp := fun vs H Q _ => ∃ x pl bo st fl, vs = [x] ∧ Says K CF H x pl bo st fl ∧ Q (.bl ((pl || bo) && !bo)) H
theorem sc_is_plain : FnScope ["number"] ["number"] (defScope s_is_plain) := ⟨rfl, rfl, rfl, by decide +kernel, rfl, by decide +kernel, by decide +kernel⟩
theorem ok_is_plain (T : All K mg CF) : Kn P w K mg base CX0 1 "is_plain" ["number"] (spPlain K CF) := by
  refine T.x_is_plain.kn fun f fd F => ?_
  refine F.ok sc_is_plain (fun vs H Q E h => ?_) (fun cdv A outer s H vs Q E hr h => ?_)
  · obtain ⟨x, pl, bo, st, fl, rfl, _⟩ := h
    rfl
  · obtain ⟨x, pl, bo, st, fl, rfl, ⟨t, ty, i1, i2, i3, i4⟩, q⟩ := h
    refine ⟨_, (pss_one (ps_ret (pe_and (pe_callB call_isi (by rfl) T.b_isinstance boot_isinstance (pa_cons (pv 0) (pa_cons (pe_bltn (by rfl) T.b_int boot_int (rty _)) pa_nil))) (pe_one (pe_not (pe_callB call_isi (by rfl) T.b_isinstance boot_isinstance (pa_cons (pv 0) (pa_cons (pe_bltn (by rfl) T.b_bool boot_bool (rty _)) pa_nil)))))))), ?_⟩
    repeat walk_at "rd"
    refine w_isi (.ty "int") ty i1 ?_
    repeat walk_at "rd"
    refine iB (fun e => ?_) (fun e => ?_)
    · repeat walk_at "rd"
      refine w_isi (.ty "bool") ty i2 ?_
      repeat walk_at "rd"
      rw [e] at q
      exact q
    · repeat walk_at "rd"
      rw [e] at q
      exact q
/-! ### reduced -/
def redV : V → Int → V × Int
  | .int t, p => (.int (red t p).1, (red t p).2)
  | v, _ => (v, 0)
def spReduced : Sp := fun vs H Q _ => ∃ tv p, vs = [tv, .int p] ∧ ((∃ t, tv = .int t ∧ 0 ≤ t) ∨ tv = .str "inf" ∨ tv = .str "nan") ∧
  ∀ q H', Same H H' → H' q = some (.tup [(redV tv p).1, .int (redV tv p).2]) → Q (.ref q) H'
theorem sc_reduced : FnScope ["top", "power", "less"] ["top", "power"] (defScope s_reduced) := ⟨rfl, rfl, rfl, by decide +kernel, rfl, by decide +kernel, by decide +kernel⟩
theorem ok_reduced (T : All K mg CF) : Kn P w K mg base CX0 1 "reduced" ["top", "power"] spReduced := by
  refine T.x_reduced.kn fun f fd F => ?_
  refine F.ok sc_reduced (fun vs H Q E h => ?_) (fun cdv A outer s H vs Q E hr h => ?_)
  · obtain ⟨tv, p, rfl, _⟩ := h
    rfl
  · obtain ⟨tv, p, rfl, c, q⟩ := h
    refine ⟨_, (pss_cons (ps_if (PW.pt (pw_or (pt_cmpR op_in_seq (pv 0) (pe_tup (pa_cons pe_str (pa_cons pe_str pa_nil))) rfl) (pw_or1 (pt_cmpR op_eq (pv 0) pe_int (nomark _))))) (pss_one (ps_ret (pe_tup (pa_cons (pv 0) (pa_cons pe_int pa_nil))))) pss_nil)
      (pss_cons (ps_set (i := 2) sc_reduced.nd rfl (Or.inl rfl) (pe_op op_sub (pe_bits (pe_op op_and (pv 0) (pe_op op_sub pe_int (pv 0)))) pe_int))
      (pss_one (ps_ret (pe_tup (pa_cons (pe_op op_shr (pv 0) (pv 2)) (pa_cons (pe_op op_add (pv 1) (pv 2)) pa_nil))))))), ?_⟩
    repeat walk_at "rd"
    refine w_tup2 fun a1 H1 s1 n1 h1 => ?_
    rcases c with ⟨t, rfl, ht⟩ | rfl | rfl
    · refine w_in h1 rfl rfl ?_
      repeat walk_at "rd"
      refine iF ?_
      repeat walk_at "rd"
      refine iD (fun z => ?_) (fun z => ?_)
      · repeat walk_at "rd"
        refine w_tup2 fun a2 H2 s2 n2 h2 => ?_
        repeat walk_at "rd"
        refine q a2 H2 (s1.trans s2) ?_
        subst z
        show H2 a2 = some (.tup [.int (red 0 p).1, .int (red 0 p).2])
        rw [red_zero]
        exact h2
      · repeat walk_at "rd"
        refine w_I (by obtain ⟨k, m, _, _, e⟩ := less_spec (t := t) (by omega); show 0 ≤ less t; omega) ?_
        repeat walk_at "rd"
        refine w_tup2 fun a2 H2 s2 n2 h2 => ?_
        repeat walk_at "rd"
        refine q a2 H2 (s1.trans s2) ?_
        show H2 a2 = some (.tup [.int (red t p).1, .int (red t p).2])
        unfold red
        rw [if_neg z]
        exact h2
    all_goals
      refine w_in h1 rfl rfl ?_
      repeat walk_at "rd"
      refine iT ?_
      repeat walk_at "rd"
      refine w_tup2 fun a2 H2 s2 n2 h2 => ?_
      repeat walk_at "rd"
      exact q a2 H2 (s1.trans s2) h2
/-! ### fits -/
def spFits : Sp := fun vs H Q _ => ∃ t p, vs = [.int t, .int p] ∧ Q (.bl (fitsB t p)) H
theorem sc_fits : FnScope ["top", "power"] ["top", "power"] (defScope s_fits) := ⟨rfl, rfl, rfl, by decide +kernel, rfl, by decide +kernel, by decide +kernel⟩
theorem ok_fits (T : All K mg CF) : Kn P w K mg base CX0 1 "fits" ["top", "power"] spFits := by
  refine T.x_fits.kn fun f fd F => ?_
  refine F.ok sc_fits (fun vs H Q E h => ?_) (fun cdv A outer s H vs Q E hr h => ?_)
  · obtain ⟨t, p, rfl, _⟩ := h
    rfl
  · obtain ⟨t, p, rfl, q⟩ := h
    refine ⟨_, (pss_one (ps_ret (pe_or (pe_and (pe_cmpR op_lt (pv 0) (pgE "ROOM" T.c_ROOM) (nomark _)) (pe_and (pe_cmpR op_ge (pv 1) (pgE "LOWEST" T.c_LOWEST) (nomark _)) (pe_one (pe_cmpR op_le (pe_op op_add (pe_bits (pv 0)) (pv 1)) (pgE "TOO_GREAT" T.c_TOO_GREAT) (nomark _))))) (pe_one (pe_cmpR op_eq (pv 0) pe_int (nomark _)))))), ?_⟩
    unfold fitsB at q
    repeat walk_at "rd"
    refine iD (fun c1 => ?_) (fun c1 => ?_)
    · rw [decide_eq_true c1, Bool.true_and] at q
      repeat walk_at "rd"
      refine iD (fun c2 => ?_) (fun c2 => ?_)
      · rw [decide_eq_true c2, Bool.true_and] at q
        repeat walk_at "rd"
        refine iD (fun c3 => ?_) (fun c3 => ?_)
        · rw [decide_eq_true (show bits t + p ≤ 1024 from c3), Bool.true_or] at q
          repeat walk_at "rd"
          exact q
        · rw [decide_eq_false (show ¬ bits t + p ≤ 1024 from c3), Bool.false_or] at q
          repeat walk_at "rd"
          exact q
      · rw [decide_eq_false c2, Bool.false_and, Bool.false_or] at q
        repeat walk_at "rd"
        exact q
    · rw [decide_eq_false c1, Bool.false_and, Bool.false_or] at q
      repeat walk_at "rd"
      exact q
/-! ### sign_of -/
def spSign : Sp := fun vs H Q _ => ∃ b, vs = [.bl b] ∧ Q (.int (if b = true then -1 else 1)) H
theorem sc_sign_of : FnScope ["is_negative"] ["is_negative"] (defScope s_sign_of) := ⟨rfl, rfl, rfl, by decide +kernel, rfl, by decide +kernel, by decide +kernel⟩
theorem ok_sign_of (T : All K mg CF) : Kn P w K mg base CX0 1 "sign_of" ["is_negative"] spSign := by
  refine T.x_sign_of.kn fun f fd F => ?_
  refine F.ok sc_sign_of (fun vs H Q E h => ?_) (fun cdv A outer s H vs Q E hr h => ?_)
  · obtain ⟨b, rfl, _⟩ := h
    rfl
  · obtain ⟨b, rfl, q⟩ := h
    refine ⟨_, (pss_one (ps_ret (pe_ifExp (pt_val (pv 0)) (pe_un un_neg pe_int) pe_int))), ?_⟩
    repeat walk_at "rd"
    cases b with
    | true =>
      refine iT ?_
      repeat walk_at "rd"
      exact q
    | false =>
      refine iF ?_
      repeat walk_at "rd"
      exact q
/-! ### Float(sign, top, power) -/
/-- the arguments that make the float f -/
def Arg (s : Int) (tv : V) (p : Int) (f : Fl) : Prop :=
  (∃ t, tv = .int t ∧ 0 ≤ t ∧ (s = 1 ∨ s = -1) ∧ fitsB (red t p).1 (red t p).2 = true ∧ f = .fin s (red t p).1 (red t p).2) ∨
  (tv = .str "inf" ∧ p = 0 ∧ (s = 1 ∨ s = -1) ∧ f = .inf s) ∨ (tv = .str "nan" ∧ p = 0 ∧ s = 1 ∧ f = .nan)
theorem Arg.redV {s p : Int} {tv : V} {f : Fl} (a : Arg s tv p f) : f.s = s ∧ f.t = (redV tv p).1 ∧ f.p = (redV tv p).2 := by
  rcases a with ⟨t, rfl, _, _, _, rfl⟩ | ⟨rfl, _, _, rfl⟩ | ⟨rfl, _, rfl, rfl⟩ <;> exact ⟨rfl, rfl, rfl⟩
theorem Arg.ok {s p : Int} {tv : V} {f : Fl} (a : Arg s tv p f) : f.ok := by
  rcases a with ⟨t, rfl, h0, hs, hf, rfl⟩ | ⟨rfl, _, hs, rfl⟩ | ⟨rfl, _, rfl, rfl⟩
  · by_cases z : t = 0
    · subst z
      rw [red_zero]
      exact ⟨hs, by decide, by decide, fun _ => rfl, fun h => absurd rfl h⟩
    · obtain ⟨k, m, hm, e, r⟩ := red_spec (t := t) (by omega) p
      rw [r] at hf ⊢
      unfold fitsB at hf
      have z2 : ¬ 2 * m + 1 = 0 := by omega
      rw [decide_eq_false z2, Bool.or_false, Bool.and_eq_true, Bool.and_eq_true, decide_eq_true_eq, decide_eq_true_eq, decide_eq_true_eq] at hf
      exact ⟨hs, by omega, hf.1, fun h => absurd h z2, fun _ => ⟨hf.2.1, hf.2.2, by omega⟩⟩
  · exact hs
  · exact trivial
def spInit (C : Addr) : Sp := fun vs H Q _ => ∃ x dx s tv p f, vs = [.ref x, .int s, tv, .int p] ∧ H x = some (.ins C dx []) ∧ Arg s tv p f ∧
  ∀ H', (∀ b o, b ≠ x → H b = some o → H' b = some o) → H' x = some (.ins C dx (flds f.s f.t f.p)) → Q .non H'
theorem u_plain_int (T : All K mg CF) {i : Int} {H : Hp} {Q : VK} {E : XK} (q : Q (.bl true) H) : spPlain K CF ([V.int i] ++ []) H Q E :=
  ⟨.int i, true, false, false, false, rfl, says_int T, q⟩
theorem u_reduced {tv : V} {p : Int} {H : Hp} {Q : VK} {E : XK} (c : (∃ t, tv = .int t ∧ 0 ≤ t) ∨ tv = .str "inf" ∨ tv = .str "nan") (q : ∀ a H', Same H H' → H' a = some (.tup [(redV tv p).1, .int (redV tv p).2]) → Q (.ref a) H') :
    spReduced ([tv, V.int p] ++ []) H Q E := ⟨tv, p, rfl, c, q⟩
theorem u_fits {t p : Int} {H : Hp} {Q : VK} {E : XK} (q : Q (.bl (fitsB t p)) H) : spFits ([V.int t, V.int p] ++ []) H Q E := ⟨t, p, rfl, q⟩
theorem w_gFld {to : TE} {f : Str} {v : V} {σ : L2.St} {H : Hp} {Q : L2.St → Hp → Prop} (h : to σ H fun x H1 => ∃ a C dx fs, x = .ref a ∧ H1 a = some (.ins C dx fs) ∧ Cls K C ∧ NoAttr K C f ∧ fs.length < 1000 ∧ Q σ (upd H1 a (.ins C dx (putF f v fs)))) : gFld K to f v σ H Q := h
theorem putF_s (s : Int) : putF "sign" (.int s) [] = [(("sign" : Str), V.int s)] := rfl
theorem len_put (f : Str) (v : V) (fs : List (Str × V)) {n : Nat} (h : fs.length < n) (hn : n < 1000) : (putF f v fs).length < 1000 := by
  have := length_putF f v fs
  omega
theorem lenf (s : Int) (t : V) (p : Int) : (flds s t p).length < 1000 := by
  unfold flds
  have a := length_putF "power" (.int p) (putF "top" t (putF "sign" (.int s) []))
  have b := length_putF "top" t (putF "sign" (.int s) [])
  have c := length_putF "sign" (.int s) []
  simp at c
  omega
theorem sc_Float_init : FnScope ["self", "sign", "top", "power"] ["self", "sign", "top", "power"] (defScope s_Float_init) := ⟨rfl, rfl, rfl, by decide +kernel, rfl, by decide +kernel, by decide +kernel⟩
theorem ok_init (T : All K mg CF) (k_is_plain : Kn P w K mg base CX0 1 "is_plain" ["number"] (spPlain K CF)) (k_reduced : Kn P w K mg base CX0 1 "reduced" ["top", "power"] spReduced) (k_fits : Kn P w K mg base CX0 1 "fits" ["top", "power"] spFits) :
    KnC P w K mg base CX0 2 "Float" CF ["self", "sign", "top", "power"] (spInit CF) := by
  refine T.x_init.kn fun f fd F => ?_
  refine F.ok sc_Float_init (fun vs H Q E h => ?_) (fun cdv A outer s H vs Q E hr h => ?_)
  · obtain ⟨x, dx, s, tv, p, f, rfl, _⟩ := h
    rfl
  · obtain ⟨x, dx, s, tv, p, f, rfl, hx, a, q⟩ := h
    refine ⟨_, (pss_cons (ps_if (PW.pt (pw_or (pt_not (pt_val (pk k_is_plain hr (pa_cons (pv 1) pa_nil)))) (pw_or1 (pt_cmpR op_notIn_seq (pv 1) (pe_tup (pa_cons pe_int (pa_cons (pe_un un_neg pe_int) pa_nil))) rfl)))) (pss_one ps_never) pss_nil)
      (C8.pss_cut (ps_if (PW.pt (pw_and (pt_val (pe_callB call_isi (by rfl) T.b_isinstance boot_isinstance (pa_cons (pv 2) (pa_cons (pe_bltn (by rfl) T.b_str boot_str (rty _)) pa_nil)))) (pw_and1 (pt_cmpR op_in_seq (pv 2) (pe_tup (pa_cons pe_str (pa_cons pe_str pa_nil))) rfl)))) (pss_cons (ps_if (PW.pt (pw_and (pt_cmpR op_eq (pv 2) pe_str (nomark _)) (pw_and1 (pt_cmpR op_eq (pv 1) (pe_un un_neg pe_int) (nomark _))))) (pss_one ps_never) pss_nil)
      (pss_one (ps_if (PW.pt (pw_or (pt_not (pt_val (pk k_is_plain hr (pa_cons (pv 3) pa_nil)))) (pw_or1 (pt_cmpR op_ne (pv 3) pe_int (nomark _))))) (pss_one ps_never) pss_nil))) (pss_one (ps_if (PW.pt (pw_or (pt_not (pt_val (pk k_is_plain hr (pa_cons (pv 2) pa_nil)))) (pw_or1 (pt_cmpR op_lt (pv 2) pe_int (nomark _))))) (pss_one ps_never) (pss_one (ps_if (pt_not (pt_val (pk k_is_plain hr (pa_cons (pv 3) pa_nil)))) (pss_one ps_never) pss_nil)))))
      (pss_cons (ps_fld (pv 0) (pv 1) rfl)
      (pss_cons (ps_asg (pk k_reduced hr (pa_cons (pv 2) (pa_cons (pv 3) pa_nil))) (pg_tup (by rfl) (pgs_cons (pg_fld (pv 0)) (pgs_cons (pg_fld (pv 0)) pgs_nil))))
      (pss_one (ps_if (PW.pt (pw_and (pt_cmpR op_notIn_seq (pe_fld (pv 0) rfl) (pe_tup (pa_cons pe_str (pa_cons pe_str pa_nil))) rfl) (pw_and1 (pt_not (pt_val (pk k_fits hr (pa_cons (pe_fld (pv 0) rfl) (pa_cons (pe_fld (pv 0) rfl) pa_nil)))))))) (pss_one ps_never) pss_nil)))))), ?_⟩
    have hs : s = 1 ∨ s = -1 := by rcases a with ⟨t, _, _, h, _, _⟩ | ⟨_, _, h, _⟩ | ⟨_, _, h, _⟩ <;> first | exact h | exact .inl h
    repeat walk_at "rd"
    refine u_plain_int T ?_
    repeat walk_at "rd"
    refine iF ?_
    repeat walk_at "rd"
    refine w_tup2 fun a1 H1 s1 n1 h1 => ?_
    refine w_nin h1 rfl rfl ?_
    repeat walk_at "rd"
    have e1 : (!inV (V.int s) [V.int 1, V.int (-1)]) = false := by rcases hs with rfl | rfl <;> rfl
    rw [e1]
    refine iF ?_
    repeat walk_at "rd"
    refine w_cut (Mid := fun σ' H' => σ' = start ["self", "sign", "top", "power"] [.ref x, .int s, tv, .int p] ∧ Same H H') ?_ ?_
    · repeat walk_at "rd"
      rcases a with ⟨t, rfl, h0, _, hf, rfl⟩ | ⟨rfl, rfl, _, rfl⟩ | ⟨rfl, rfl, rfl, rfl⟩
      · refine w_isi (.ty "str") (.base (.int t)) (kit_ty (b := "str") (r := false) (by decide +kernel)) ?_
        repeat walk_at "rd"
        refine u_plain_int T ?_
        repeat walk_at "rd"
        refine iF ?_
        repeat walk_at "rd"
        refine iD (fun z => by omega) (fun _ => ?_)
        repeat walk_at "rd"
        refine u_plain_int T ?_
        repeat walk_at "rd"
        refine iF ?_
        repeat walk_at "rd"
        exact ⟨rfl, s1⟩
      · refine w_isi (.ty "str") (.base (.str _)) (kit_ty (b := "str") (r := true) (by decide +kernel)) ?_
        repeat walk_at "rd"
        refine w_tup2 fun a2 H2 s2 n2 h2 => ?_
        refine w_in h2 rfl rfl ?_
        repeat walk_at "rd"
        refine iT ?_
        repeat walk_at "rd"
        refine iD (fun z => absurd z (by decide +kernel)) (fun _ => ?_)
        repeat walk_at "rd"
        refine u_plain_int T ?_
        repeat walk_at "rd"
        refine iF ?_
        repeat walk_at "rd"
        refine iN (fun z => absurd rfl z) (fun _ => ?_)
        repeat walk_at "rd"
        exact ⟨rfl, s1.trans s2⟩
      · refine w_isi (.ty "str") (.base (.str _)) (kit_ty (b := "str") (r := true) (by decide +kernel)) ?_
        repeat walk_at "rd"
        refine w_tup2 fun a2 H2 s2 n2 h2 => ?_
        refine w_in h2 rfl rfl ?_
        repeat walk_at "rd"
        refine iT ?_
        repeat walk_at "rd"
        refine iD (fun _ => ?_) (fun z => absurd rfl z)
        repeat walk_at "rd"
        refine iD (fun z => absurd z (by decide)) (fun _ => ?_)
        repeat walk_at "rd"
        refine u_plain_int T ?_
        repeat walk_at "rd"
        refine iF ?_
        repeat walk_at "rd"
        refine iN (fun z => absurd rfl z) (fun _ => ?_)
        repeat walk_at "rd"
        exact ⟨rfl, s1.trans s2⟩
    · rintro σ' H3 ⟨rfl, s3⟩
      obtain ⟨e1, e2, e3⟩ := a.redV
      have hx3 := s3 _ _ hx
      repeat walk_at "rd"
      refine w_sfI hx3 T.l_Float T.n_sign (by decide) ?_
      repeat walk_at "rd"
      refine u_reduced (by rcases a with ⟨t, rfl, h0, _⟩ | ⟨rfl, _⟩ | ⟨rfl, _⟩ <;> first | exact .inl ⟨_, rfl, h0⟩ | exact .inr (.inl rfl) | exact .inr (.inr rfl)) fun a4 H4 s4 h4 => ?_
      have hx4 : H4 x = some (.ins CF dx (putF "sign" (.int s) [])) := s4 _ _ upd_same
      refine w_gtup h4 rfl ?_
      repeat walk_at "rd"
      refine w_gFld ?_
      repeat walk_at "rd"
      refine w_sfI hx4 T.l_Float T.n_top (by show 1 < 1000; decide) ?_
      repeat walk_at "rd"
      refine w_gFld ?_
      repeat walk_at "rd"
      refine w_sfI upd_same T.l_Float T.n_power (len_put _ _ _ (n := 2) (by show 1 < 2; decide) (by decide)) ?_
      repeat walk_at "rd"
      rw [upd_upd]
      have ef : (putF "power" (.int (redV tv p).2) (putF "top" (redV tv p).1 (putF "sign" (.int s) []))) = flds f.s f.t f.p := by rw [e1, e2, e3]; rfl
      rw [ef]
      generalize eH5 : upd H4 x (.ins CF dx (flds f.s f.t f.p)) = H5
      have hx5 : H5 x = some (.ins CF dx (flds f.s f.t f.p)) := by rw [← eH5]; exact upd_same
      have k5 : ∀ b o, b ≠ x → H b = some o → H5 b = some o := fun b o hb e => by
        rw [← eH5, upd_ne hb]
        exact s4 _ _ (by rw [upd_ne hb]; exact s3 _ _ e)
      refine w_fldI hx5 T.l_Float T.n_top (flds_t _ _ _) ?_
      repeat walk_at "rd"
      refine w_tup2 fun a6 H6 s6 n6 h6 => ?_
      have hx6 := s6 _ _ hx5
      have k6 : ∀ b o, b ≠ x → H b = some o → H6 b = some o := fun b o hb e => s6 _ _ (k5 b o hb e)
      rcases a with ⟨t, rfl, h0, _, hf, rfl⟩ | ⟨rfl, rfl, _, rfl⟩ | ⟨rfl, rfl, rfl, rfl⟩
      · refine w_nin h6 rfl rfl ?_
        repeat walk_at "rd"
        refine iT ?_
        repeat walk_at "rd"
        refine w_fldI hx6 T.l_Float T.n_top (flds_t _ _ _) ?_
        repeat walk_at "rd"
        refine w_fldI hx6 T.l_Float T.n_power (flds_p _ _ _) ?_
        repeat walk_at "rd"
        refine u_fits ?_
        repeat walk_at "rd"
        show if (!fitsB (red t p).1 (red t p).2) = true then _ else _
        rw [hf]
        refine iF ?_
        repeat walk_at "rd"
        exact q H6 k6 hx6
      all_goals
        refine w_nin h6 rfl rfl ?_
        repeat walk_at "rd"
        refine iF ?_
        refine iF ?_
        repeat walk_at "rd"
        exact q H6 k6 hx6
/-- Float(s, tv, p) makes f -/
theorem u_Float {s p : Int} {tv : V} {f : Fl} {H : Hp} {Q : VK} {E : XK} (a : Arg s tv p f) (q : ∀ x H', Same H H' → H x = none → FlAt CF H' x f → Q (.ref x) H') : MakeK CF (spInit CF) [.int s, tv, .int p] H Q E := by
  intro x dx hx hdx ne
  refine ⟨x, dx, s, tv, p, f, rfl, upd_same, a, fun H' k hx' => ⟨rfl, q x H' (fun b o e => k b o (ne_of_none e hx) ?_) hx ⟨dx, hx'⟩⟩⟩
  rw [upd_ne (ne_of_none e hx), upd_ne (ne_of_none e hdx)]
  exact e
end
end Nu

set_option Elab.async false
set_option linter.all false
set_option maxRecDepth 100000
set_option autoImplicit false
set_option maxHeartbeats 4000000
namespace Nu
open PySem PySem.Spec PyProof.Rows L2 Rd
local macro_rules | `(tactic| walk_at "hp") => `(tactic| first | assumption | (refine same_get ?sm ?_; (case sm => assumption); walk_at "hp"))
local macro_rules | `(tactic| walk_at "rd") => `(tactic| first
  | (with_reducible show Ends.nx _ _ _; with_reducible refine w_nx ?_)
  | with_reducible refine w_rt ?_
  | (with_reducible show Ends.bk _ _ _; with_reducible refine w_bk ?_)
  | (with_reducible show Ends.ct _ _ _; with_reducible refine w_ct ?_)
  | with_reducible refine w_seq ?_
  | with_reducible refine w_next ?_
  | with_reducible refine w_ret ?_
  | with_reducible refine w_ifS ?_
  | with_reducible refine w_asg ?_
  | with_reducible refine w_name ?_
  | with_reducible refine w_par ?_
  | with_reducible refine w_parI ?_
  | with_reducible refine w_ii ?_
  | with_reducible refine w_i1 ?_
  | with_reducible refine w_drop ?_
  | with_reducible refine w_sFld ?_
  | ((with_reducible refine' w_var ?rdh ?_); (case rdh => exact rfl))
  | with_reducible refine w_c ?_
  | with_reducible refine w_op ?_
  | with_reducible refine w_un ?_
  | with_reducible refine w_I0 ?_
  | with_reducible refine w_U ?_
  | with_reducible refine w_bits ?_
  | with_reducible refine w_bitsI ?_
  | with_reducible refine w_tup ?_
  | with_reducible refine w_lst ?_
  | with_reducible refine w_nil ?_
  | with_reducible refine w_cons ?_
  | with_reducible refine w_fld ?_
  | with_reducible refine w_call ?_
  | with_reducible refine w_make ?_
  | with_reducible refine w_makeD ?_
  | with_reducible refine w_nn ?_
  | with_reducible refine w_subB ?_
  | with_reducible refine w_meth ?_
  | with_reducible refine w_cb ?_
  | with_reducible refine w_test ?_
  | with_reducible refine w_B ?_
  | with_reducible refine w_bl ?_
  | with_reducible refine w_andV ?_
  | with_reducible refine w_orV ?_
  | with_reducible refine w_notV ?_
  | with_reducible refine w_and ?_
  | with_reducible refine w_or ?_
  | with_reducible refine w_not ?_
  | with_reducible refine w_if ?_
  | with_reducible refine w_gnil ?_
  | with_reducible refine w_gcons ?_
  | with_reducible refine iT ?_
  | with_reducible refine iF ?_
  | with_reducible refine w_eqI ?_
  | with_reducible refine w_neI ?_
  | with_reducible refine w_eqS ?_
  | with_reducible refine w_eqIS ?_
  | with_reducible refine w_eqSI ?_)

section
variable {P : Program} {w : World} {K : PySem.W.Frag} {mg : Str → Option Value} {base : Heap} {CF : Addr}
/-- a new float -/
def NewF (CF : Addr) (f : Fl) (H : Hp) (Q : VK) : Prop := ∀ x H', Same H H' → H x = none → FlAt CF H' x f → Q (.ref x) H'
/-! ### infinity -/
def spInf (CF : Addr) : Sp := fun vs H Q _ => ∃ s, vs = [.int s] ∧ (s = 1 ∨ s = -1) ∧ NewF CF (.inf s) H Q
theorem sc_infinity : FnScope ["sign"] ["sign"] (defScope s_infinity) := ⟨rfl, rfl, rfl, by decide +kernel, rfl, by decide +kernel, by decide +kernel⟩
theorem ok_infinity (T : All K mg CF) (k_Float_init : KnC P w K mg base CX0 2 "Float" CF ["self", "sign", "top", "power"] (spInit CF)) : Kn P w K mg base CX0 4 "infinity" ["sign"] (spInf CF) := by
  refine T.x_infinity.kn fun f fd F => ?_
  refine F.ok sc_infinity (fun vs H Q E h => ?_) (fun cdv A outer s H vs Q E hr h => ?_)
  · obtain ⟨s, rfl, _⟩ := h
    rfl
  · obtain ⟨s, rfl, hs, q⟩ := h
    refine ⟨_, (pss_one (ps_ret (pkC k_Float_init hr (pa_cons (pv 0) (pa_cons pe_str (pa_cons pe_int pa_nil)))))), ?_⟩
    repeat walk_at "rd"
    refine u_Float (.inr (.inl ⟨rfl, rfl, hs, rfl⟩)) fun x H' s1 n1 h1 => ?_
    exact q x H' s1 n1 h1
/-! ### nearest -/
def nearM (s t b : Int) : Fl := if t = 0 then .fin s 0 0 else if 1024 < bits (wh t b) + p2 t b then .inf s else .fin s (red (wh t b) (p2 t b)).1 (red (wh t b) (p2 t b)).2
def spNear (CF : Addr) : Sp := fun vs H Q _ => ∃ s t b, vs = [.int s, .int t, .int b] ∧ (s = 1 ∨ s = -1) ∧ 0 ≤ t ∧ 0 < b ∧ bits t ≤ 2200 ∧ bits b ≤ 2200 ∧ NewF CF (nearM s t b) H Q
theorem cshl {i j : Int} (h : bits i ≤ 10000) (h0 : 0 ≤ j) (h1 : j ≤ 10000) : CShl i j := by
  refine ⟨h0, ?_⟩
  have e : (2 : Int) ^ 27 = 134217728 := by decide
  rw [e]
  have : bits i = (Builtin.Int.intBits i : Nat) := rfl
  omega
theorem cdivw {i j : Int} (h : 0 < j) (hb : bits j ≤ 8000) : CDivW i j := by
  have := (bits_le (n := j) (k := 8000)).1 (by omega)
  exact wide_div h this (by decide) (by decide)
theorem cdivp {i j : Int} (h : 0 < j) (hb : bits i ≤ 4000) : CDivP i j := by
  refine divp_ok h ?_
  have : bits i = (Builtin.Int.intBits i : Nat) := rfl
  omega
theorem cmulx {i j : Int} (h : bits i ≤ 100000) (hb : bits j ≤ 100000) : CMulX i j := by
  unfold CMulX
  have : bits i = (Builtin.Int.intBits i : Nat) := rfl
  have : bits j = (Builtin.Int.intBits j : Nat) := rfl
  omega
theorem sc_nearest : FnScope ["sign", "top", "bottom", "power", "whole", "rest"] ["sign", "top", "bottom"] (defScope s_nearest) := ⟨rfl, rfl, rfl, by decide +kernel, rfl, by decide +kernel, by decide +kernel⟩
theorem ok_nearest (T : All K mg CF) (k_Float_init : KnC P w K mg base CX0 2 "Float" CF ["self", "sign", "top", "power"] (spInit CF)) (k_infinity : Kn P w K mg base CX0 4 "infinity" ["sign"] (spInf CF)) :
    Kn P w K mg base CX0 5 "nearest" ["sign", "top", "bottom"] (spNear CF) := by
  refine T.x_nearest.kn fun f fd F => ?_
  refine F.ok sc_nearest (fun vs H Q E h => ?_) (fun cdv A outer s H vs Q E hr h => ?_)
  · obtain ⟨s, t, b, rfl, _⟩ := h
    rfl
  · obtain ⟨s, t, b, rfl, hs, ht, hb, bt, bb, q⟩ := h
    refine ⟨_, (pss_cons (ps_if (pt_cmpR op_eq (pv 1) pe_int (nomark _)) (pss_one (ps_ret (pkC k_Float_init hr (pa_cons (pv 0) (pa_cons pe_int (pa_cons pe_int pa_nil)))))) pss_nil)
      (pss_cons (ps_set (i := 3) sc_nearest.nd rfl (Or.inl rfl) (pe_callB (call_max2 (by rfl)) (by rfl) T.b_max boot_max (pa_cons (pe_op op_sub (pe_op op_sub (pe_bits (pv 1)) (pe_bits (pv 2))) pe_int) (pa_cons (pgE "LOWEST" T.c_LOWEST) pa_nil))))
      (C8.pss_cut (ps_if (pt_cmpR op_lt (pv 3) pe_int (nomark _)) (pss_one (ps_set (i := 1) sc_nearest.nd rfl (Or.inl rfl) (pe_op op_shlW (pv 1) (pe_op op_sub pe_int (pv 3))))) (pss_one (ps_set (i := 2) sc_nearest.nd rfl (Or.inl rfl) (pe_op op_shlW (pv 2) (pv 3)))))
      (C8.pss_cut (ps_if (pt_cmpR op_ge (pe_op op_fdivW (pv 1) (pv 2)) (pgE "ROOM" T.c_ROOM) (nomark _)) (pss_cons (ps_set (i := 2) sc_nearest.nd rfl (Or.inl rfl) (pe_op op_shlW (pv 2) pe_int))
      (pss_one (ps_set (i := 3) sc_nearest.nd rfl (Or.inl rfl) (pe_op op_add (pv 3) pe_int)))) pss_nil)
      (pss_cons (ps_asg (pe_callB call_divmodW (by rfl) T.b_divmod boot_divmod (pa_cons (pv 1) (pa_cons (pv 2) pa_nil))) (pg_tup (by rfl) (pgs_cons (pg_name (i := 4) sc_nearest.nd rfl (Or.inl rfl)) (pgs_cons (pg_name (i := 5) sc_nearest.nd rfl (Or.inl rfl)) pgs_nil))))
      (C8.pss_cut (ps_if (PW.pt (pw_or (pt_cmpR op_gt (pe_op op_mulX pe_int (pv 5)) (pv 2) (nomark _)) (pw_or1 (PW.pt (pw_and (pt_cmpR op_eq (pe_op op_mulX pe_int (pv 5)) (pv 2) (nomark _)) (pw_and1 (pt_cmpR op_eq (pe_op op_and (pv 4) pe_int) pe_int (nomark _)))))))) (pss_one (ps_set (i := 4) sc_nearest.nd rfl (Or.inl rfl) (pe_op op_add (pv 4) pe_int))) pss_nil)
      (pss_cons (ps_if (pt_cmpR op_gt (pe_op op_add (pe_bits (pv 4)) (pv 3)) (pgE "TOO_GREAT" T.c_TOO_GREAT) (nomark _)) (pss_one (ps_ret (pk k_infinity hr (pa_cons (pv 0) pa_nil)))) pss_nil)
      (pss_one (ps_ret (pkC k_Float_init hr (pa_cons (pv 0) (pa_cons (pv 4) (pa_cons (pv 3) pa_nil))))))))))))), ?_⟩
    repeat walk_at "rd"
    refine iD (fun z => ?_) (fun z => ?_)
    · repeat walk_at "rd"
      subst z
      refine u_Float (.inl ⟨0, rfl, by decide, hs, by rw [red_zero]; decide, rfl⟩) fun x H' s1 n1 h1 => ?_
      refine q x H' s1 n1 ?_
      unfold nearM
      rw [if_pos rfl]
      rw [red_zero] at h1
      exact h1
    · repeat walk_at "rd"
      rw [show (if (-1074 : Int) > ((Builtin.Int.intBits t : Nat) : Int) - ((Builtin.Int.intBits b : Nat) : Int) - 53 then (-1074 : Int) else ((Builtin.Int.intBits t : Nat) : Int) - ((Builtin.Int.intBits b : Nat) : Int) - 53) = pw t b from rfl]
      have g1 := pw_ge (t := t) (b := b)
      have g2 := pw_le (t := t) (b := b) bt
      repeat walk_at "rd"
      refine w_cut (Mid := fun σ' H' => σ' = [some (.int s), some (.int (t1 t b)), some (.int (b1 t b)), some (.int (pw t b)), none, none] ∧ H' = H) ?_ ?_
      · repeat walk_at "rd"
        refine iD (fun c => ?_) (fun c => ?_)
        · repeat walk_at "rd"
          refine w_I (cshl (by omega) (by omega) (by omega)) ?_
          repeat walk_at "rd"
          refine ⟨?_, rfl⟩
          unfold t1 b1
          rw [if_pos c, if_pos c]
          rfl
        · repeat walk_at "rd"
          refine w_I (cshl (by omega) (by omega) (by omega)) ?_
          repeat walk_at "rd"
          refine ⟨?_, rfl⟩
          unfold t1 b1
          rw [if_neg c, if_neg c]
          rfl
      rintro σ' H' ⟨rfl, rfl⟩
      have h1 := b1_pos (t := t) hb
      have h2 := b2_pos (t := t) hb
      have h3 := b1_bits hb bt bb
      have h4 := b2_bits hb bt bb
      have h5 := t1_bits (b := b) ht bt
      refine w_cut (Mid := fun σ' H'' => σ' = [some (.int s), some (.int (t1 t b)), some (.int (b2 t b)), some (.int (p2 t b)), none, none] ∧ H'' = H') ?_ ?_
      · repeat walk_at "rd"
        refine w_I (cdivw h1 (by omega)) ?_
        repeat walk_at "rd"
        refine iD (fun c => ?_) (fun c => ?_)
        · repeat walk_at "rd"
          refine w_I (cshl (by omega) (by omega) (by omega)) ?_
          repeat walk_at "rd"
          refine ⟨?_, rfl⟩
          unfold b2 p2
          rw [if_pos c, if_pos c]
          rfl
        · repeat walk_at "rd"
          refine ⟨?_, rfl⟩
          unfold b2 p2
          rw [if_neg c, if_neg c]
      rintro σ' H'' ⟨rfl, rfl⟩
      repeat walk_at "rd"
      refine ⟨cdivp h2 (by omega), fun a1 n1 => ?_⟩
      have s1 := same_upd (o := .tup [.int (t1 t b / b2 t b), .int (t1 t b % b2 t b)]) n1
      have e1 := upd_same (H := H'') (a := a1) (o := .tup [.int (t1 t b / b2 t b), .int (t1 t b % b2 t b)])
      generalize upd H'' a1 (.tup [.int (t1 t b / b2 t b), .int (t1 t b % b2 t b)]) = H1 at s1 e1 ⊢
      refine w_gtup e1 rfl ?_
      repeat walk_at "rd"
      rw [show t1 t b / b2 t b = wq t b from rfl, show t1 t b % b2 t b = wr t b from rfl]
      have r0 := wr_nn (t := t) hb
      have r1 := wr_lt (t := t) hb
      have rb : bits (wr t b) ≤ 4401 := Int.le_trans (bits_mono r0 (Int.le_of_lt r1)) h4
      refine w_cut (Mid := fun σ' H'' => σ' = [some (.int s), some (.int (t1 t b)), some (.int (b2 t b)), some (.int (p2 t b)), some (.int (wh t b)), some (.int (wr t b))] ∧ H'' = H1) ?_ ?_
      · have up : goesUp t b → wh t b = wq t b + 1 := fun c => if_pos c
        have dn : ¬ goesUp t b → wh t b = wq t b := fun c => if_neg c
        repeat walk_at "rd"
        refine w_I (cmulx (by decide) (by omega)) ?_
        repeat walk_at "rd"
        refine iD (fun c => ?_) (fun c => ?_)
        · refine iT ?_
          repeat walk_at "rd"
          refine ⟨?_, rfl⟩
          rw [up (.inl c)]
          rfl
        · repeat walk_at "rd"
          refine w_I (cmulx (by decide) (by omega)) ?_
          repeat walk_at "rd"
          refine iD (fun c2 => ?_) (fun c2 => ?_)
          · repeat walk_at "rd"
            refine iD (fun c3 => ?_) (fun c3 => ?_)
            · repeat walk_at "rd"
              refine ⟨?_, rfl⟩
              rw [up (.inr ⟨c2, c3⟩)]
              rfl
            · repeat walk_at "rd"
              refine ⟨?_, rfl⟩
              rw [dn (fun h => h.elim c fun h => c3 h.2)]
              rfl
          · repeat walk_at "rd"
            refine ⟨?_, rfl⟩
            rw [dn (fun h => h.elim c fun h => c2 h.1)]
            rfl
      rintro σ' H3 ⟨rfl, rfl⟩
      repeat walk_at "rd"
      refine iD (fun c => ?_) (fun c => ?_)
      · repeat walk_at "rd"
        refine ⟨s, rfl, hs, fun x H' s2 n2 h2 => ?_⟩
        refine q x H' (s1.trans s2) (s1.free n2) ?_
        unfold nearM
        rw [if_neg z, if_pos c]
        exact h2
      · repeat walk_at "rd"
        refine u_Float (.inl ⟨wh t b, rfl, wh_nn ht hb, hs, wh_fits ht hb (Int.not_lt.mp c), rfl⟩) fun x H' s2 n2 h2 => ?_
        refine q x H' (s1.trans s2) (s1.free n2) ?_
        unfold nearM
        rw [if_neg z, if_neg c]
        exact h2
end
end Nu

set_option Elab.async false
set_option linter.all false
set_option maxRecDepth 100000
set_option autoImplicit false
set_option maxHeartbeats 4000000
namespace Nu
open PySem PySem.Spec PyProof.Rows L2 Rd
local macro_rules | `(tactic| walk_at "hp") => `(tactic| first | assumption | (refine same_get ?sm ?_; (case sm => assumption); walk_at "hp"))
local macro_rules | `(tactic| walk_at "rd") => `(tactic| first
  | (with_reducible show Ends.nx _ _ _; with_reducible refine w_nx ?_)
  | with_reducible refine w_rt ?_
  | (with_reducible show Ends.bk _ _ _; with_reducible refine w_bk ?_)
  | (with_reducible show Ends.ct _ _ _; with_reducible refine w_ct ?_)
  | with_reducible refine w_seq ?_
  | with_reducible refine w_next ?_
  | with_reducible refine w_ret ?_
  | with_reducible refine w_ifS ?_
  | with_reducible refine w_asg ?_
  | with_reducible refine w_name ?_
  | with_reducible refine w_par ?_
  | with_reducible refine w_parI ?_
  | with_reducible refine w_ii ?_
  | with_reducible refine w_i1 ?_
  | with_reducible refine w_drop ?_
  | with_reducible refine w_sFld ?_
  | ((with_reducible refine' w_var ?rdh ?_); (case rdh => exact rfl))
  | with_reducible refine w_c ?_
  | with_reducible refine w_op ?_
  | with_reducible refine w_un ?_
  | with_reducible refine w_I0 ?_
  | with_reducible refine w_U ?_
  | with_reducible refine w_bits ?_
  | with_reducible refine w_bitsI ?_
  | with_reducible refine w_tup ?_
  | with_reducible refine w_lst ?_
  | with_reducible refine w_nil ?_
  | with_reducible refine w_cons ?_
  | with_reducible refine w_fld ?_
  | with_reducible refine w_call ?_
  | with_reducible refine w_make ?_
  | with_reducible refine w_makeD ?_
  | with_reducible refine w_nn ?_
  | with_reducible refine w_subB ?_
  | with_reducible refine w_meth ?_
  | with_reducible refine w_cb ?_
  | with_reducible refine w_test ?_
  | with_reducible refine w_B ?_
  | with_reducible refine w_bl ?_
  | with_reducible refine w_andV ?_
  | with_reducible refine w_orV ?_
  | with_reducible refine w_notV ?_
  | with_reducible refine w_and ?_
  | with_reducible refine w_or ?_
  | with_reducible refine w_not ?_
  | with_reducible refine w_if ?_
  | with_reducible refine w_gnil ?_
  | with_reducible refine w_gcons ?_
  | with_reducible refine iT ?_
  | with_reducible refine iF ?_
  | with_reducible refine w_eqI ?_
  | with_reducible refine w_neI ?_
  | with_reducible refine w_eqS ?_
  | with_reducible refine w_eqIS ?_
  | with_reducible refine w_eqSI ?_)

section
variable {P : Program} {w : World} {K : PySem.W.Frag} {mg : Str → Option Value} {base : Heap} {CF : Addr}
/-! ### is_finite, ratio -/
def Fl.isFin : Fl → Bool
  | .fin _ _ _ => true
  | _ => false
theorem Fl.ty (f : Fl) (K : PySem.W.Frag) (H : Hp) : ∃ t, TyX K H f.t t ∧ PySem.W.kitOne K t (.type "int") = some f.isFin := by
  cases f with
  | fin s t p => exact ⟨_, .base (.int t), kit_ty (r := true) (by decide +kernel)⟩
  | inf s => exact ⟨_, .base (.str _), kit_ty (r := false) (by decide +kernel)⟩
  | nan => exact ⟨_, .base (.str _), kit_ty (r := false) (by decide +kernel)⟩
def spFinite (CF : Addr) : Sp := fun vs H Q _ => ∃ a f, vs = [.ref a] ∧ FlAt CF H a f ∧ Q (.bl f.isFin) H
theorem sc_Float_is_finite : FnScope ["self"] ["self"] (defScope s_Float_is_finite) := ⟨rfl, rfl, rfl, by decide +kernel, rfl, by decide +kernel, by decide +kernel⟩
theorem ok_is_finite (T : All K mg CF) : KnM P w K mg base CX0 1 CF "is_finite" ["self"] (spFinite CF) := by
  refine T.x_is_finite.kn fun f fd F => ?_
  refine F.ok sc_Float_is_finite (fun vs H Q E h => ?_) (fun cdv A outer s H vs Q E hr h => ?_)
  · obtain ⟨a, f, rfl, _⟩ := h
    rfl
  · obtain ⟨a, f, rfl, ⟨dx, h1⟩, q⟩ := h
    refine ⟨_, (pss_one (ps_ret (pe_callB call_isi (by rfl) T.b_isinstance boot_isinstance (pa_cons (pe_fld (pv 0) rfl) (pa_cons (pe_bltn (by rfl) T.b_int boot_int (rty _)) pa_nil))))), ?_⟩
    repeat walk_at "rd"
    refine w_fldI h1 T.l_Float T.n_top (flds_t _ _ _) ?_
    repeat walk_at "rd"
    obtain ⟨t, ty, k⟩ := f.ty K H
    refine w_isi (.ty "int") ty k ?_
    repeat walk_at "rd"
    exact q
/-- top and bottom of a finite float -/
def ratT (s t p : Int) : Int := if p < 0 then s * t else s * (t * 2 ^ p.toNat)
def ratB (p : Int) : Int := if p < 0 then 2 ^ (0 - p).toNat else 1
def spRatio (CF : Addr) : Sp := fun vs H Q _ => ∃ a s t p, vs = [.ref a] ∧ FlAt CF H a (.fin s t p) ∧ (Fl.fin s t p).ok ∧
  ∀ q H', Same H H' → H q = none → H' q = some (.tup [.int (ratT s t p), .int (ratB p)]) → Q (.ref q) H'
theorem ok_bounds {s t p : Int} (h : (Fl.fin s t p).ok) : bits s ≤ 1 ∧ bits t ≤ 53 ∧ -1074 ≤ p ∧ p ≤ 1023 ∧ 0 ≤ t ∧ bits t + p ≤ 1024 := by
  obtain ⟨hs, h0, h1, h2, h3⟩ := h
  have b1 : bits s ≤ 1 := by rcases hs with rfl | rfl <;> decide
  have b2 : bits t ≤ ((53 : Nat) : Int) := (bits_lt_pow h0).2 (by rw [← pow53]; exact h1)
  by_cases z : t = 0
  · have := h2 z
    subst z
    rw [bits_zero]
    omega
  · obtain ⟨h4, h5, h6⟩ := h3 z
    have : 0 < Builtin.Int.intBits t := bits_pos (by omega)
    have e : bits t = (Builtin.Int.intBits t : Nat) := rfl
    omega
theorem sc_Float_ratio : FnScope ["self"] ["self"] (defScope s_Float_ratio) := ⟨rfl, rfl, rfl, by decide +kernel, rfl, by decide +kernel, by decide +kernel⟩
theorem ok_ratio (T : All K mg CF) : KnM P w K mg base CX0 1 CF "ratio" ["self"] (spRatio CF) := by
  refine T.x_ratio.kn fun f fd F => ?_
  refine F.ok sc_Float_ratio (fun vs H Q E h => ?_) (fun cdv A outer s H vs Q E hr h => ?_)
  · obtain ⟨a, s, t, p, rfl, _⟩ := h
    rfl
  · obtain ⟨a, s, t, p, rfl, ⟨dx, h1⟩, ok, q⟩ := h
    obtain ⟨bs, bt, p1, p2, t0, tp⟩ := ok_bounds ok
    refine ⟨_, (pss_cons (ps_if (pt_cmpR op_lt (pe_fld (pv 0) rfl) pe_int (nomark _)) (pss_one (ps_ret (pe_tup (pa_cons (pe_op op_mulX (pe_fld (pv 0) rfl) (pe_fld (pv 0) rfl)) (pa_cons (pe_op op_shlW pe_int (pe_op op_sub pe_int (pe_fld (pv 0) rfl))) pa_nil))))) pss_nil)
      (pss_one (ps_ret (pe_tup (pa_cons (pe_op op_mulX (pe_fld (pv 0) rfl) (pe_op op_shlW (pe_fld (pv 0) rfl) (pe_fld (pv 0) rfl))) (pa_cons pe_int pa_nil)))))), ?_⟩
    repeat walk_at "rd"
    refine w_fldI h1 T.l_Float T.n_power (flds_p _ _ _) ?_
    repeat walk_at "rd"
    refine iD (fun c => ?_) (fun c => ?_)
    · have c' : p < 0 := c
      repeat walk_at "rd"
      refine w_fldI h1 T.l_Float T.n_sign (flds_s _ _ _) ?_
      repeat walk_at "rd"
      refine w_fldI h1 T.l_Float T.n_top (flds_t _ _ _) ?_
      refine w_I (cmulx (i := s) (j := t) (by omega) (by omega)) ?_
      repeat walk_at "rd"
      refine w_fldI h1 T.l_Float T.n_power (flds_p _ _ _) ?_
      repeat walk_at "rd"
      refine w_I (cshl (i := 1) (j := 0 - p) (by decide) (by omega) (by omega)) ?_
      repeat walk_at "rd"
      refine w_tup2 fun a2 H2 s2 n2 h2 => ?_
      repeat walk_at "rd"
      refine q a2 H2 s2 n2 ?_
      rw [h2]
      unfold ratT ratB
      rw [if_pos c', if_pos c', Int.one_mul] <;> rfl
    · have c' : ¬ p < 0 := c
      repeat walk_at "rd"
      refine w_fldI h1 T.l_Float T.n_sign (flds_s _ _ _) ?_
      repeat walk_at "rd"
      refine w_fldI h1 T.l_Float T.n_top (flds_t _ _ _) ?_
      repeat walk_at "rd"
      refine w_fldI h1 T.l_Float T.n_power (flds_p _ _ _) ?_
      refine w_I (cshl (i := t) (j := p) (by omega) (by omega) (by omega)) ?_
      refine w_I (cmulx (i := s) (j := t * 2 ^ p.toNat) (by omega) (by have := bits_mul_pow t0 p.toNat; omega)) ?_
      repeat walk_at "rd"
      refine w_tup2 fun a2 H2 s2 n2 h2 => ?_
      repeat walk_at "rd"
      refine q a2 H2 s2 n2 ?_
      rw [h2]
      unfold ratT ratB
      rw [if_neg c', if_neg c'] <;> rfl
/-- a float is itself; an int of 64 bits the nearest -/
def spToF (K : PySem.W.Frag) (CF : Addr) : Sp := fun vs H Q _ => (∃ a f, vs = [.ref a] ∧ FlAt CF H a f ∧ Q (.ref a) H) ∨
  (∃ i, vs = [.int i] ∧ bits i ≤ 2000 ∧ NewF CF (nearM (if i < 0 then -1 else 1) (if i < 0 then -i else i) 1) H Q)
theorem sc_to_float : FnScope ["number"] ["number"] (defScope s_to_float) := ⟨rfl, rfl, rfl, by decide +kernel, rfl, by decide +kernel, by decide +kernel⟩
theorem ok_to_float (T : All K mg CF) (k_sign_of : Kn P w K mg base CX0 1 "sign_of" ["is_negative"] spSign) (k_nearest : Kn P w K mg base CX0 5 "nearest" ["sign", "top", "bottom"] (spNear CF)) : Kn P w K mg base CX0 6 "to_float" ["number"] (spToF K CF) := by
  refine T.x_to_float.kn fun f fd F => ?_
  refine F.ok sc_to_float (fun vs H Q E h => ?_) (fun cdv A outer s H vs Q E hr h => ?_)
  · rcases h with ⟨a, f, rfl, _⟩ | ⟨i, rfl, _⟩ <;> rfl
  · refine ⟨_, (pss_cons (ps_if (pt_val (pe_callB call_isi (by rfl) T.b_isinstance boot_isinstance (pa_cons (pv 0) (pa_cons (pg "Float" T.g_Float (rref _)) pa_nil)))) (pss_one (ps_ret (pv 0))) pss_nil)
      (pss_one (ps_ret (pk k_nearest hr (pa_cons (pk k_sign_of hr (pa_cons (pe_cmpR op_lt (pv 0) pe_int (nomark _)) pa_nil)) (pa_cons (pe_callB call_abs (by rfl) T.b_abs boot_abs (pa_cons (pv 0) pa_nil)) (pa_cons pe_int pa_nil))))))), ?_⟩
    rcases h with ⟨a, f, rfl, ⟨dx, h1⟩, q⟩ | ⟨i, rfl, hb, q⟩
    · obtain ⟨t, ty, i1, i2, i3, i4⟩ := says_fl T h1
      repeat walk_at "rd"
      refine w_isi (.own CF) ty i4 ?_
      repeat walk_at "rd"
      exact q
    · obtain ⟨t, ty, i1, i2, i3, i4⟩ := says_int (i := i) (H := H) T
      repeat walk_at "rd"
      refine w_isi (.own CF) ty i4 ?_
      repeat walk_at "rd"
      refine ⟨_, rfl, ?_⟩
      repeat walk_at "rd"
      refine ⟨_, _, _, rfl, ?_, ?_, by decide, ?_, by decide, ?_⟩
      · by_cases c : i < 0
        · rw [decide_eq_true c, if_pos rfl]; exact .inr rfl
        · rw [decide_eq_false c, if_neg Bool.false_ne_true]; exact .inl rfl
      · split <;> omega
      · have e : bits (if i < 0 then -i else i) = bits i := by
          split
          · exact congrArg Nat.cast (by unfold Builtin.Int.intBits; simp)
          · rfl
        rw [e]
        omega
      · have e : (if decide (i < 0) = true then (-1 : Int) else 1) = (if i < 0 then -1 else 1) := by
          by_cases c : i < 0
          · rw [decide_eq_true c, if_pos rfl, if_pos c]
          · rw [decide_eq_false c, if_neg Bool.false_ne_true, if_neg c]
        rw [e]
        exact q
theorem lk_fin (s : Int) (t : V) (p : Int) : (flds s t p).lookup ("is_finite" : Str) = none := flds_no s t p (by decide +kernel) (by decide +kernel) (by decide +kernel)
theorem lk_rat (s : Int) (t : V) (p : Int) : (flds s t p).lookup ("ratio" : Str) = none := flds_no s t p (by decide +kernel) (by decide +kernel) (by decide +kernel)
end
end Nu

set_option Elab.async false
set_option linter.all false
set_option maxRecDepth 100000
set_option autoImplicit false
set_option maxHeartbeats 4000000
namespace Nu
open PySem PySem.Spec PyProof.Rows L2 Rd
local macro_rules | `(tactic| walk_at "hp") => `(tactic| first | assumption | (refine same_get ?sm ?_; (case sm => assumption); walk_at "hp"))
local macro_rules | `(tactic| walk_at "rd") => `(tactic| first
  | (with_reducible show Ends.nx _ _ _; with_reducible refine w_nx ?_)
  | with_reducible refine w_rt ?_
  | (with_reducible show Ends.bk _ _ _; with_reducible refine w_bk ?_)
  | (with_reducible show Ends.ct _ _ _; with_reducible refine w_ct ?_)
  | with_reducible refine w_seq ?_
  | with_reducible refine w_next ?_
  | with_reducible refine w_ret ?_
  | with_reducible refine w_ifS ?_
  | with_reducible refine w_asg ?_
  | with_reducible refine w_name ?_
  | with_reducible refine w_par ?_
  | with_reducible refine w_parI ?_
  | with_reducible refine w_ii ?_
  | with_reducible refine w_i1 ?_
  | with_reducible refine w_drop ?_
  | with_reducible refine w_sFld ?_
  | ((with_reducible refine' w_var ?rdh ?_); (case rdh => exact rfl))
  | with_reducible refine w_c ?_
  | with_reducible refine w_op ?_
  | with_reducible refine w_un ?_
  | with_reducible refine w_I0 ?_
  | with_reducible refine w_U ?_
  | with_reducible refine w_bits ?_
  | with_reducible refine w_bitsI ?_
  | with_reducible refine w_tup ?_
  | with_reducible refine w_lst ?_
  | with_reducible refine w_nil ?_
  | with_reducible refine w_cons ?_
  | with_reducible refine w_fld ?_
  | with_reducible refine w_call ?_
  | with_reducible refine w_make ?_
  | with_reducible refine w_gsub ?_
  | with_reducible refine w_int1 ?_
  | with_reducible refine w_intB ?_
  | with_reducible refine w_for ?_
  | with_reducible refine w_rng1 ?_
  | with_reducible refine w_iList ?_
  | with_reducible refine w_iTup ?_
  | with_reducible refine w_makeD ?_
  | with_reducible refine w_nn ?_
  | with_reducible refine w_subB ?_
  | with_reducible refine w_meth ?_
  | with_reducible refine w_cb ?_
  | with_reducible refine w_test ?_
  | with_reducible refine w_B ?_
  | with_reducible refine w_bl ?_
  | with_reducible refine w_andV ?_
  | with_reducible refine w_orV ?_
  | with_reducible refine w_notV ?_
  | with_reducible refine w_and ?_
  | with_reducible refine w_or ?_
  | with_reducible refine w_not ?_
  | with_reducible refine w_if ?_
  | with_reducible refine w_gnil ?_
  | with_reducible refine w_gcons ?_
  | with_reducible refine iT ?_
  | with_reducible refine iF ?_
  | with_reducible refine w_eqI ?_
  | with_reducible refine w_neI ?_
  | with_reducible refine w_eqS ?_
  | with_reducible refine w_eqIS ?_
  | with_reducible refine w_eqSI ?_)

abbrev s_law_well : Stmt := top 40
abbrev s_law_draw : Stmt := top 41
abbrev s_law_one : Stmt := top 42
abbrev s_law_great : Stmt := top 43
structure AllL (K : PySem.W.Frag) (mg : Str → Option Value) (CF : Addr) : Prop extends All K mg CF where
  x_well : Tx K mg "_law_well" "_law_well" s_law_well ["cell"]
  x_draw : Tx K mg "_law_draw" "_law_draw" s_law_draw ["well", "many"]
  x_one : Tx K mg "_law_one" "_law_one" s_law_one ["well", "some"]
  x_great : Tx K mg "_law_great" "_law_great" s_law_great ["well", "bits"]
/-! ### the well: a list of three ints -/
structure WellD (n : Nat) (a b c : Int) : Prop where
  a0 : 0 ≤ a
  a1 : bits a ≤ 1048580
  b0 : 0 ≤ b
  b1 : b < 2147483647
  c0 : 0 ≤ c
  c1 : c ≤ n
def Well (n : Nat) (H : Hp) (w : Addr) : Prop := ∃ a b c, H w = some (.lst [.int a, .int b, .int c]) ∧ WellD n a b c
theorem Well.mono {n m : Nat} {H : Hp} {w : Addr} (h : Well n H w) (hm : n ≤ m) : Well m H w := by
  obtain ⟨a, b, c, e, d⟩ := h
  exact ⟨a, b, c, e, ⟨d.a0, d.a1, d.b0, d.b1, d.c0, by have := d.c1; omega⟩⟩
theorem Well.same {n : Nat} {H H' : Hp} {w : Addr} (h : Well n H w) (s : Same H H') : Well n H' w := by
  obtain ⟨a, b, c, e, d⟩ := h
  exact ⟨a, b, c, s _ _ e, d⟩
theorem bits_small {n : Int} {k : Nat} (h0 : 0 ≤ n) (h : n < 2 ^ k) : bits n ≤ k := (bits_lt_pow h0).2 h
theorem bits_i (n : Int) : bits n = (Builtin.Int.intBits n : Nat) := rfl
theorem cmulS {i j : Int} (h : i.natAbs < 18446744073709551616) (h' : j.natAbs < 18446744073709551616) : CMulX i j := by
  refine cmulW ?_
  have a := (bits_le (n := i) (k := 64)).2 h
  have b := (bits_le (n := j) (k := 64)).2 h'
  unfold bits at a b
  omega
section
variable {P : Program} {w : World} {K : PySem.W.Frag} {mg : Str → Option Value} {base : Heap} {CF : Addr}
def spWell : Sp := fun vs H Q _ => ∃ c, vs = [.int c] ∧ bits c ≤ 1048576 ∧ ∀ p H', Same H H' → H p = none → Well 0 H' p → Q (.ref p) H'
theorem sc_law_well : FnScope ["cell"] ["cell"] (defScope s_law_well) := ⟨rfl, rfl, rfl, by decide +kernel, rfl, by decide +kernel, by decide +kernel⟩
theorem ok_well (T : AllL K mg CF) : Kn P w K mg base CX0 1 "_law_well" ["cell"] spWell := by
  refine T.x_well.kn fun f fd F => ?_
  refine F.ok sc_law_well (fun vs H Q E h => ?_) (fun cdv A outer s H vs Q E hr h => ?_)
  · obtain ⟨c, rfl, _⟩ := h
    rfl
  · obtain ⟨c, rfl, hc, q⟩ := h
    refine ⟨_, (pss_one (ps_ret (pe_lst (pa_cons (pe_op op_mulX (pv 0) (pe_callTy call_int1 (by rfl) T.b_int boot_int (pa_cons (pe_cmpR op_ge (pv 0) (pe_op op_pow pe_int pe_int) (nomark _)) pa_nil))) (pa_cons (pe_op op_mod (pe_callTy call_int1 (by rfl) T.b_int boot_int (pa_cons (pv 0) pa_nil)) pe_int) (pa_cons pe_int pa_nil)))))), ?_⟩
    repeat walk_at "rd"
    refine w_I (cpow (by decide) (by decide) (by decide)) ?_
    repeat walk_at "rd"
    refine w_I (cmulW (by have : bits (if decide (10 ^ Int.toNat 18 ≤ c) = true then (1 : Int) else 0) ≤ 1 := by split <;> decide
                          unfold bits at this hc; omega)) ?_
    repeat walk_at "rd"
    refine w_I (by decide) ?_
    repeat walk_at "rd"
    refine w_lst3 fun p H' s n h => ?_
    refine q p H' s n ⟨_, _, _, h, ?_⟩
    by_cases g : (10 : Int) ^ Int.toNat 18 ≤ c
    · rw [decide_eq_true g, if_pos rfl, Int.mul_one]
      have : (0 : Int) < 10 ^ Int.toNat 18 := by decide
      exact ⟨by omega, by omega, Int.emod_nonneg _ (by decide), Int.emod_lt_of_pos _ (by decide), Int.le_refl _, Int.le_refl _⟩
    · rw [decide_eq_false g, if_neg Bool.false_ne_true, Int.mul_zero]
      exact ⟨Int.le_refl _, by decide, Int.emod_nonneg _ (by decide), Int.emod_lt_of_pos _ (by decide), Int.le_refl _, Int.le_refl _⟩
/-! ### a draw -/
def spDraw : Sp := fun vs H Q _ => ∃ p many n, vs = [.ref p, .int many] ∧ Well n H p ∧ n < 1000000 ∧ 0 < many ∧ bits many ≤ 64 ∧
  ∀ r H', Oth p H H' → Well (n + 1) H' p → 0 ≤ r → r < many → Q (.int r) H'
theorem sc_law_draw : FnScope ["well", "many", "digit", "number"] ["well", "many"] (defScope s_law_draw) := ⟨rfl, rfl, rfl, by decide +kernel, rfl, by decide +kernel, by decide +kernel⟩
theorem ok_draw (T : AllL K mg CF) : Kn P w K mg base CX0 1 "_law_draw" ["well", "many"] spDraw := by
  refine T.x_draw.kn fun f fd F => ?_
  refine F.ok sc_law_draw (fun vs H Q E h => ?_) (fun cdv A outer s H vs Q E hr h => ?_)
  · obtain ⟨p, many, n, rfl, _⟩ := h
    rfl
  · obtain ⟨p, many, n, rfl, ⟨a, b, c, hw, d⟩, hn, m0, m1, q⟩ := h
    refine ⟨_, (pss_cons (ps_if (pt_cmpR op_gt (pe_ix ix_list (pv 0) pe_int (fun _ _ => rfl)) pe_int (nomark _)) (pss_cons (ps_set (i := 2) sc_law_draw.nd rfl (Or.inl rfl) (pe_op op_mod (pe_callTy call_int1 (by rfl) T.b_int boot_int (pa_cons (pe_ix ix_list (pv 0) pe_int (fun _ _ => rfl)) pa_nil)) (pv 1)))
      (pss_cons (ps_asg (pe_op op_fdivW (pe_ix ix_list (pv 0) pe_int (fun _ _ => rfl)) (pv 1)) (pg_sub (pv 0) pe_int set_list))
      (pss_one (ps_ret (pv 2))))) pss_nil)
      (pss_cons (ps_asg (pe_op op_add (pe_ix ix_list (pv 0) pe_int (fun _ _ => rfl)) pe_int) (pg_sub (pv 0) pe_int set_list))
      (pss_cons (ps_set (i := 3) sc_law_draw.nd rfl (Or.inl rfl) (pe_op op_mod (pe_callTy call_int1 (by rfl) T.b_int boot_int (pa_cons (pe_op op_add (pe_op op_add (pe_op op_mulX (pe_ix ix_list (pv 0) pe_int (fun _ _ => rfl)) pe_int) (pe_op op_mulX pe_int (pe_ix ix_list (pv 0) pe_int (fun _ _ => rfl)))) pe_int) pa_nil)) pe_int))
      (pss_cons (ps_set (i := 3) sc_law_draw.nd rfl (Or.inl rfl) (pe_op op_mod (pe_callTy call_int1 (by rfl) T.b_int boot_int (pa_cons (pe_op op_mulX (pv 3) (pe_op op_add (pe_op op_fdivW (pv 3) pe_int) pe_int)) pa_nil)) pe_int))
      (pss_cons (ps_set (i := 3) sc_law_draw.nd rfl (Or.inl rfl) (pe_op op_mod (pe_callTy call_int1 (by rfl) T.b_int boot_int (pa_cons (pe_op op_mulX (pv 3) (pe_op op_add (pe_op op_add (pe_op op_fdivW (pv 3) pe_int) pe_int) (pe_ix ix_list (pv 0) pe_int (fun _ _ => rfl)))) pa_nil)) pe_int))
      (pss_one (ps_ret (pe_op op_mod (pe_callTy call_int1 (by rfl) T.b_int boot_int (pa_cons (pe_op op_fdivW (pv 3) pe_int) pa_nil)) (pv 1))))))))), ?_⟩
    obtain ⟨a0, a1, b0, b1, c0, c1⟩ := d
    repeat walk_at "rd"
    refine w_ixL hw (v := .int a) rfl ?_
    repeat walk_at "rd"
    refine iD (fun g => ?_) (fun g => ?_)
    · repeat walk_at "rd"
      refine w_ixL hw (v := .int a) rfl ?_
      repeat walk_at "rd"
      refine w_I m0 ?_
      repeat walk_at "rd"
      refine w_ixL hw (v := .int a) rfl ?_
      repeat walk_at "rd"
      refine w_I (cdivw m0 (by omega)) ?_
      repeat walk_at "rd"
      refine w_setL hw rfl ?_
      repeat walk_at "rd"
      refine q _ _ Oth.refl.put ⟨_, _, _, upd_same, ?_⟩ (Int.emod_nonneg _ (by omega)) (Int.emod_lt_of_pos _ m0)
      have e : a / many ≤ a := Int.ediv_le_self _ a0
      have e0 : 0 ≤ a / many := Int.ediv_nonneg a0 (by omega)
      exact ⟨e0, by have := bits_mono e0 e; omega, b0, b1, c0, by omega⟩
    · repeat walk_at "rd"
      refine w_ixL hw (v := .int c) rfl ?_
      repeat walk_at "rd"
      refine w_setL (j := 2) hw rfl ?_
      have hw2 := upd_same (H := H) (a := p) (o := .lst (List.set [V.int a, .int b, .int c] 2 (.int (c + 1))))
      have o2 := (Oth.refl (x := p) (H := H)).put (o := .lst (List.set [V.int a, .int b, .int c] 2 (.int (c + 1))))
      generalize upd H p (.lst (List.set [V.int a, .int b, .int c] 2 (.int (c + 1)))) = H2 at hw2 o2 ⊢
      change H2 p = some (.lst [.int a, .int b, .int (c + 1)]) at hw2
      have W2 : Well (n + 1) H2 p := ⟨_, _, _, hw2, ⟨a0, a1, b0, b1, by omega, by omega⟩⟩
      repeat walk_at "rd"
      refine w_ixL hw2 (v := .int b) rfl ?_
      repeat walk_at "rd"
      refine w_I (cmulS (by omega) (by decide)) ?_
      repeat walk_at "rd"
      refine w_ixL hw2 (v := .int (c + 1)) rfl ?_
      refine w_I (cmulS (by decide) (by omega)) ?_
      repeat walk_at "rd"
      refine w_I (by decide) ?_
      have g0 := Int.emod_nonneg (b * 48271 + 30103 * (c + 1) + 11) (show (2147483647 : Int) ≠ 0 by decide)
      have g1 := Int.emod_lt_of_pos (b * 48271 + 30103 * (c + 1) + 11) (show (0 : Int) < 2147483647 by decide)
      generalize (b * 48271 + 30103 * (c + 1) + 11) % 2147483647 = x1 at g0 g1 ⊢
      repeat walk_at "rd"
      refine w_I (cdivw (by decide) (by decide)) ?_
      repeat walk_at "rd"
      refine w_I (cmulS (by omega) (by omega)) ?_
      repeat walk_at "rd"
      refine w_I (by decide) ?_
      have g2 := Int.emod_nonneg (x1 * (x1 / 1009 + 69621)) (show (2147483629 : Int) ≠ 0 by decide)
      have g3 := Int.emod_lt_of_pos (x1 * (x1 / 1009 + 69621)) (show (0 : Int) < 2147483629 by decide)
      generalize x1 * (x1 / 1009 + 69621) % 2147483629 = x2 at g2 g3 ⊢
      repeat walk_at "rd"
      refine w_I (cdivw (by decide) (by decide)) ?_
      repeat walk_at "rd"
      refine w_ixL hw2 (v := .int (c + 1)) rfl ?_
      repeat walk_at "rd"
      refine w_I (cmulS (by omega) (by omega)) ?_
      repeat walk_at "rd"
      refine w_I (by decide) ?_
      repeat walk_at "rd"
      refine w_I (cdivw (by decide) (by decide)) ?_
      repeat walk_at "rd"
      refine w_I m0 ?_
      exact q _ _ o2 W2 (Int.emod_nonneg _ (by omega)) (Int.emod_lt_of_pos _ m0)
/-! ### one of some -/
def spOne : Sp := fun vs H Q _ => ∃ (p l : Addr) (n : Nat) (xs : List V), vs = [.ref p, .ref l] ∧ Well n H p ∧ n < 1000000 ∧ l ≠ p ∧ H l = some (.lst xs) ∧ 0 < xs.length ∧ xs.length ≤ 1000 ∧
  ∀ (i : Nat) v H', xs[i]? = some v → Oth p H H' → Well (n + 1) H' p → Q v H'
theorem atI_nat {xs : List V} {r : Int} (h0 : 0 ≤ r) (h1 : r < xs.length) : ∃ v, atI xs r = some v ∧ xs[r.toNat]? = some v := by
  obtain ⟨k, rfl⟩ := Int.eq_ofNat_of_zero_le h0
  have h : k < xs.length := by omega
  refine ⟨xs[k], ?_, ?_⟩
  · unfold atI ixN
    rw [if_pos h0, if_pos h1]
    simp [h]
  · simp [h]
theorem sc_law_one : FnScope ["well", "some"] ["well", "some"] (defScope s_law_one) := ⟨rfl, rfl, rfl, by decide +kernel, rfl, by decide +kernel, by decide +kernel⟩
theorem ok_one (T : AllL K mg CF) (k_law_draw : Kn P w K mg base CX0 1 "_law_draw" ["well", "many"] spDraw) : Kn P w K mg base CX0 2 "_law_one" ["well", "some"] spOne := by
  refine T.x_one.kn fun f fd F => ?_
  refine F.ok sc_law_one (fun vs H Q E h => ?_) (fun cdv A outer s H vs Q E hr h => ?_)
  · obtain ⟨p, l, n, xs, rfl, _⟩ := h
    rfl
  · obtain ⟨p, l, n, xs, rfl, hw, hn, lp, hl, l0, l1, q⟩ := h
    refine ⟨_, (pss_one (ps_ret (pe_ix ix_list (pv 1) (pk k_law_draw hr (pa_cons (pv 0) (pa_cons (pe_callB call_len_seq (by rfl) T.b_len boot_len (pa_cons (pv 1) pa_nil)) pa_nil))) (fun _ _ => rfl)))), ?_⟩
    repeat walk_at "rd"
    refine w_lenL hl ?_
    repeat walk_at "rd"
    refine ⟨p, _, n, rfl, hw, hn, by omega, ?_, fun r H' o W r0 r1 => ?_⟩
    · have := (bits_lt_pow (n := (xs.length : Int)) (k := 64) (by omega)).2 (Int.lt_trans (show (xs.length : Int) < 18446744073709551615 by omega) (by decide))
      exact this
    repeat walk_at "rd"
    obtain ⟨v, e1, e2⟩ := atI_nat r0 r1
    refine w_ixL (o l _ lp hl) e1 ?_
    exact q _ v H' e2 o W
end
end Nu

set_option Elab.async false
set_option linter.all false
set_option maxRecDepth 100000
set_option autoImplicit false
set_option maxHeartbeats 4000000
namespace Nu
open PySem PySem.Spec PyProof.Rows L2 Rd
local macro_rules | `(tactic| walk_at "hp") => `(tactic| first | assumption | (refine same_get ?sm ?_; (case sm => assumption); walk_at "hp"))
local macro_rules | `(tactic| walk_at "rd") => `(tactic| first
  | (with_reducible show Ends.nx _ _ _; with_reducible refine w_nx ?_)
  | with_reducible refine w_rt ?_
  | (with_reducible show Ends.bk _ _ _; with_reducible refine w_bk ?_)
  | (with_reducible show Ends.ct _ _ _; with_reducible refine w_ct ?_)
  | with_reducible refine w_seq ?_
  | with_reducible refine w_next ?_
  | with_reducible refine w_ret ?_
  | with_reducible refine w_ifS ?_
  | with_reducible refine w_asg ?_
  | with_reducible refine w_name ?_
  | with_reducible refine w_par ?_
  | with_reducible refine w_parI ?_
  | with_reducible refine w_ii ?_
  | with_reducible refine w_i1 ?_
  | with_reducible refine w_drop ?_
  | with_reducible refine w_sFld ?_
  | ((with_reducible refine' w_var ?rdh ?_); (case rdh => exact rfl))
  | with_reducible refine w_c ?_
  | with_reducible refine w_op ?_
  | with_reducible refine w_un ?_
  | with_reducible refine w_I0 ?_
  | with_reducible refine w_U ?_
  | with_reducible refine w_bits ?_
  | with_reducible refine w_bitsI ?_
  | with_reducible refine w_tup ?_
  | with_reducible refine w_lst ?_
  | with_reducible refine w_nil ?_
  | with_reducible refine w_cons ?_
  | with_reducible refine w_fld ?_
  | with_reducible refine w_call ?_
  | with_reducible refine w_make ?_
  | with_reducible refine w_gsub ?_
  | with_reducible refine w_int1 ?_
  | with_reducible refine w_intB ?_
  | with_reducible refine w_for ?_
  | with_reducible refine w_rng1 ?_
  | with_reducible refine w_iList ?_
  | with_reducible refine w_iTup ?_
  | with_reducible refine w_makeD ?_
  | with_reducible refine w_nn ?_
  | with_reducible refine w_subB ?_
  | with_reducible refine w_meth ?_
  | with_reducible refine w_cb ?_
  | with_reducible refine w_test ?_
  | with_reducible refine w_B ?_
  | with_reducible refine w_bl ?_
  | with_reducible refine w_andV ?_
  | with_reducible refine w_orV ?_
  | with_reducible refine w_notV ?_
  | with_reducible refine w_and ?_
  | with_reducible refine w_or ?_
  | with_reducible refine w_not ?_
  | with_reducible refine w_if ?_
  | with_reducible refine w_gnil ?_
  | with_reducible refine w_gcons ?_
  | with_reducible refine iT ?_
  | with_reducible refine iF ?_
  | with_reducible refine w_eqI ?_
  | with_reducible refine w_neI ?_
  | with_reducible refine w_eqS ?_
  | with_reducible refine w_eqIS ?_
  | with_reducible refine w_eqSI ?_)

abbrev s_law_finite : Stmt := top 44
abbrev s_law_float : Stmt := top 45
structure AllM (K : PySem.W.Frag) (mg : Str → Option Value) (CF : Addr) : Prop extends AllL K mg CF where
  x_finite : Tx K mg "_law_finite" "_law_finite" s_law_finite ["well"]
  x_float : Tx K mg "_law_float" "_law_float" s_law_float ["well"]
section
variable {P : Program} {w : World} {K : PySem.W.Frag} {mg : Str → Option Value} {base : Heap} {CF : Addr}
/-! ### a great int -/
def spGreat : Sp := fun vs H Q _ => ∃ (p : Addr) (b : Int) (n : Nat), vs = [.ref p, .int b] ∧ Well n H p ∧ n < 900000 ∧ 0 ≤ b ∧ b ≤ 100 ∧
  ∀ r H', Oth p H H' → Well (n + 10) H' p → 0 ≤ r → r < 2 ^ b.toNat → Q (.int r) H'
theorem sc_law_great : FnScope ["well", "bits", "number", "k"] ["well", "bits"] (defScope s_law_great) := ⟨rfl, rfl, rfl, by decide +kernel, rfl, by decide +kernel, by decide +kernel⟩
theorem ok_great (T : AllL K mg CF) (k_law_draw : Kn P w K mg base CX0 1 "_law_draw" ["well", "many"] spDraw) : Kn P w K mg base CX0 2 "_law_great" ["well", "bits"] spGreat := by
  refine T.x_great.kn fun f fd F => ?_
  refine F.ok sc_law_great (fun vs H Q E h => ?_) (fun cdv A outer s H vs Q E hr h => ?_)
  · obtain ⟨p, b, n, rfl, _⟩ := h
    rfl
  · obtain ⟨p, b, n, rfl, hw, hn, hb0, hb1, q⟩ := h
    refine ⟨_, (pss_cons (ps_set (i := 2) sc_law_great.nd rfl (Or.inl rfl) pe_int)
      (pss_cons (ps_for PassesOwn.never rfl (pi_range1 rfl T.b_range (pa_cons (pe_op op_add pe_int (pe_op op_fdivW (pv 1) pe_int)) pa_nil)) (pg_name (i := 3) sc_law_great.nd rfl (Or.inl rfl))
      (pss_one (ps_set (i := 2) sc_law_great.nd rfl (Or.inl rfl) (pe_op op_add (pe_op op_mulX (pv 2) pe_int) (pk k_law_draw hr (pa_cons (pv 0) (pa_cons pe_int pa_nil)))))))
      (pss_one (ps_ret (pe_op op_mod (pe_callTy call_int1 (by rfl) T.b_int boot_int (pa_cons (pv 2) pa_nil)) (pe_op op_shlW pe_int (pv 1))))))), ?_⟩
    repeat walk_at "rd"
    refine w_I (cdivw (by decide) (by decide)) ?_
    repeat walk_at "rd"
    refine ⟨by omega, by omega, ?_⟩
    have e : (1 + b / 20).toNat ≤ 6 := by omega
    generalize (1 + b / 20).toNat = m at e ⊢
    refine for_range (lo := 0) (fun i σ H' => ∃ num kv, σ = [some (.ref p), some (.int b), some (.int num), kv] ∧ Oth p H H' ∧ Well (n + i) H' p ∧ 0 ≤ num ∧ num < 2 ^ (20 * i)) ⟨0, none, rfl, Oth.refl, hw, Int.le_refl _, by decide⟩ ?_ ?_
    · intro i σ H1 hi ⟨num, kv, es, o1, w1, n0, n1⟩
      subst es
      repeat walk_at "rd"
      have bn := (bits_lt_pow n0).2 n1
      refine w_I (cmulW (by unfold bits at bn; have : Builtin.Int.intBits 1048576 = 21 := by decide
                            omega)) ?_
      repeat walk_at "rd"
      refine ⟨p, 1048576, n + i, rfl, w1, by omega, by decide, by decide, fun r H2 o2 w2 r0 r1 => ?_⟩
      repeat walk_at "rd"
      refine ⟨_, _, rfl, o1.trans o2, w2, by omega, ?_⟩
      rw [show 20 * (i + 1) = 20 * i + 20 from by omega, Int.pow_add, show (2 : Int) ^ 20 = 1048576 by decide]
      omega
    · intro σ H1 ⟨num, kv, es, o1, w1, n0, n1⟩
      subst es
      repeat walk_at "rd"
      refine w_I (cshl (by decide) hb0 (by omega)) ?_
      repeat walk_at "rd"
      have pp := pow_pos2 b.toNat
      refine w_I (by rw [Int.one_mul]; exact pp) ?_
      rw [Int.one_mul]
      exact q _ _ o1 (w1.mono (by omega)) (Int.emod_nonneg _ (by omega)) (Int.emod_lt_of_pos _ pp)
theorem u_draw {p : Addr} {many : Int} {n : Nat} {H : Hp} {Q : VK} {E : XK} (hw : Well n H p) (hn : n < 1000000) (m0 : 0 < many) (m1 : bits many ≤ 64) (q : ∀ r H', Oth p H H' → Well (n + 1) H' p → 0 ≤ r → r < many → Q (.int r) H') : spDraw ([V.ref p, V.int many] ++ []) H Q E :=
  ⟨p, many, n, rfl, hw, hn, m0, m1, q⟩
theorem u_one {p l : Addr} {xs : List V} {n : Nat} {H : Hp} {Q : VK} {E : XK} (hw : Well n H p) (hn : n < 1000000) (hl : H l = some (.lst xs)) (lp : l ≠ p) (l0 : 0 < xs.length) (l1 : xs.length ≤ 1000) (q : ∀ v H', v ∈ xs → Oth p H H' → Well (n + 1) H' p → Q v H') : spOne ([V.ref p, V.ref l] ++ []) H Q E :=
  ⟨p, l, n, xs, rfl, hw, hn, lp, hl, l0, l1, fun i v H' e o W => q v H' (List.mem_of_getElem? e) o W⟩
/-- a call of _law_one on a list that is made in the call -/
theorem u_great {p : Addr} {b : Int} {n : Nat} {H : Hp} {Q : VK} {E : XK} (hw : Well n H p) (hn : n < 900000) (m0 : 0 ≤ b) (m1 : b ≤ 100) (q : ∀ r H', Oth p H H' → Well (n + 10) H' p → 0 ≤ r → r < 2 ^ b.toNat → Q (.int r) H') : spGreat ([V.ref p, V.int b] ++ []) H Q E :=
  ⟨p, b, n, rfl, hw, hn, m0, m1, q⟩
theorem Well.ne {n : Nat} {H : Hp} {p l : Addr} (h : Well n H p) (e : H l = none) : l ≠ p := by
  rintro rfl
  obtain ⟨_, _, _, k, _⟩ := h
  rw [e] at k
  cases k
/-! ### a finite float's parts -/
structure FinA (s t p : Int) : Prop where
  hs : s = 1 ∨ s = -1
  t0 : 0 ≤ t
  t1 : t < 9007199254740992
  p0 : -1074 ≤ p
  p1 : p ≤ 971
def spFin : Sp := fun vs H Q _ => ∃ (p : Addr) (n : Nat), vs = [.ref p] ∧ Well n H p ∧ n < 800000 ∧
  ∀ q H' s t pw, Oth p H H' → Well (n + 40) H' p → H' q = some (.tup [.int s, .int t, .int pw]) → FinA s t pw → Q (.ref q) H'
theorem sc_law_finite : FnScope ["well", "sign", "way", "some"] ["well"] (defScope s_law_finite) := ⟨rfl, rfl, rfl, by decide +kernel, rfl, by decide +kernel, by decide +kernel⟩
theorem ok_finite (T : AllM K mg CF) (k_law_draw : Kn P w K mg base CX0 1 "_law_draw" ["well", "many"] spDraw) (k_law_one : Kn P w K mg base CX0 2 "_law_one" ["well", "some"] spOne) (k_law_great : Kn P w K mg base CX0 2 "_law_great" ["well", "bits"] spGreat) :
    Kn P w K mg base CX0 3 "_law_finite" ["well"] spFin := by
  refine T.x_finite.kn fun f fd F => ?_
  refine F.ok sc_law_finite (fun vs H Q E h => ?_) (fun cdv A outer s H vs Q E hr h => ?_)
  · obtain ⟨p, n, rfl, _⟩ := h
    rfl
  · obtain ⟨p, n, rfl, hw, hn, q⟩ := h
    refine ⟨_, (pss_cons (ps_par (by rfl) sc_law_finite.nd (i := 1) (j := 2) rfl rfl (by decide) rfl rfl (pa_cons (pk k_law_one hr (pa_cons (pv 0) (pa_cons (pe_lst (pa_cons pe_int (pa_cons (pe_un un_neg pe_int) pa_nil))) pa_nil))) (pa_cons (pk k_law_draw hr (pa_cons (pv 0) (pa_cons pe_int pa_nil))) pa_nil)) (by rfl))
      (pss_cons (ps_if (pt_cmpR op_eq (pv 2) pe_int (nomark _)) (pss_one (ps_ret (pe_tup (pa_cons (pv 1) (pa_cons pe_int (pa_cons pe_int pa_nil)))))) pss_nil)
      (pss_cons (ps_if (pt_cmpR op_lt (pv 2) pe_int (nomark _)) (pss_one (ps_ret (pe_tup (pa_cons (pv 1) (pa_cons (pk k_law_draw hr (pa_cons (pv 0) (pa_cons pe_int pa_nil))) (pa_cons (pk k_law_one hr (pa_cons (pv 0) (pa_cons (pe_lst (pa_cons pe_int (pa_cons pe_int (pa_cons (pe_un un_neg pe_int) (pa_cons (pe_un un_neg pe_int) pa_nil))))) pa_nil))) pa_nil)))))) pss_nil)
      (pss_cons (ps_set (i := 3) sc_law_finite.nd rfl (Or.inl rfl) (pe_lst (pa_cons (pe_op op_sub (pk k_law_draw hr (pa_cons (pv 0) (pa_cons pe_int pa_nil))) pe_int) (pa_cons (pe_op op_sub pe_int (pk k_law_draw hr (pa_cons (pv 0) (pa_cons pe_int pa_nil)))) (pa_cons (pk k_law_draw hr (pa_cons (pv 0) (pa_cons pe_int pa_nil))) (pa_cons (pe_op op_sub pe_int (pk k_law_draw hr (pa_cons (pv 0) (pa_cons pe_int pa_nil)))) pa_nil))))))
      (pss_cons (ps_set (i := 3) sc_law_finite.nd rfl (Or.inl rfl) (pe_op op_cat (pv 3) (pe_lst (pa_cons (pe_op op_sub (pe_un un_neg pe_int) (pk k_law_draw hr (pa_cons (pv 0) (pa_cons pe_int pa_nil)))) (pa_cons (pe_op op_sub (pk k_law_draw hr (pa_cons (pv 0) (pa_cons pe_int pa_nil))) pe_int) pa_nil)))))
      (pss_one (ps_ret (pe_tup (pa_cons (pv 1) (pa_cons (pk k_law_great hr (pa_cons (pv 0) (pa_cons (pk k_law_one hr (pa_cons (pv 0) (pa_cons (pe_lst (pa_cons pe_int (pa_cons pe_int (pa_cons pe_int (pa_cons pe_int pa_nil))))) pa_nil))) pa_nil))) (pa_cons (pe_callB (call_min2 (by rfl)) (by rfl) T.b_min boot_min (pa_cons pe_int (pa_cons (pk k_law_one hr (pa_cons (pv 0) (pa_cons (pv 3) pa_nil))) pa_nil))) pa_nil))))))))))), ?_⟩
    repeat walk_at "rd"
    refine w_lst2 fun a1 H1 s1 n1 h1 => ?_
    repeat walk_at "rd"
    refine u_one (hw.same s1) (by omega) h1 (hw.ne n1) (by decide) (by decide) fun v H2 hv o2 w2 => ?_
    have o2 := (Rd.Same.oth (x := p) s1).trans o2
    obtain ⟨sg, rfl, hs⟩ : ∃ sg, v = .int sg ∧ (sg = 1 ∨ sg = -1) := by
      simp only [List.mem_cons, List.not_mem_nil, or_false] at hv
      rcases hv with rfl | rfl
      · exact ⟨_, rfl, .inl rfl⟩
      · exact ⟨_, rfl, .inr rfl⟩
    repeat walk_at "rd"
    refine u_draw w2 (by omega) (by decide) (by decide) fun way H3 o3 w3 r0 r1 => ?_
    have o3 := o2.trans o3
    repeat walk_at "rd"
    refine iD (fun _ => ?_) (fun _ => ?_)
    · repeat walk_at "rd"
      refine w_tup3 fun a4 H4 s4 n4 h4 => ?_
      repeat walk_at "rd"
      exact q a4 H4 sg 0 0 (o3.same s4) ((w3.mono (by omega)).same s4) h4 ⟨hs, by decide, by decide, by decide, by decide⟩
    repeat walk_at "rd"
    refine iD (fun _ => ?_) (fun _ => ?_)
    · repeat walk_at "rd"
      refine u_draw w3 (by omega) (by decide) (by decide) fun t H4 o4 w4 t0 t1 => ?_
      repeat walk_at "rd"
      refine w_lst4 fun a5 H5 s5 n5 h5 => ?_
      repeat walk_at "rd"
      refine u_one (w4.same s5) (by omega) h5 (w4.ne n5) (by decide) (by decide) fun v H6 hv o6 w6 => ?_
      have o6 := ((o3.trans o4).same s5).trans o6
      obtain ⟨pw, rfl, hp⟩ : ∃ pw, v = .int pw ∧ -3 ≤ pw ∧ pw ≤ 0 := by
        simp only [List.mem_cons, List.not_mem_nil, or_false] at hv
        rcases hv with rfl | rfl | rfl | rfl <;> exact ⟨_, rfl, by decide, by decide⟩
      repeat walk_at "rd"
      refine w_tup3 fun a4 H4 s4 n4 h4 => ?_
      repeat walk_at "rd"
      exact q a4 H4 sg t pw (o6.same s4) ((w6.mono (by omega)).same s4) h4 ⟨hs, t0, by omega, by omega, by omega⟩
    repeat walk_at "rd"
    refine u_draw w3 (by omega) (by decide) (by decide) fun t1 H4 o4 w4 t1l t1u => ?_
    repeat walk_at "rd"
    refine u_draw w4 (by omega) (by decide) (by decide) fun t2 H5 o5 w5 t2l t2u => ?_
    repeat walk_at "rd"
    refine u_draw w5 (by omega) (by decide) (by decide) fun t3 H6 o6 w6 t3l t3u => ?_
    repeat walk_at "rd"
    refine u_draw w6 (by omega) (by decide) (by decide) fun t4 H7 o7 w7 t4l t4u => ?_
    have o7 := (((o3.trans o4).trans o5).trans o6).trans o7
    repeat walk_at "rd"
    refine w_lst4 fun a8 H8 s8 n8 h8 => ?_
    have o8 := o7.same s8
    have w8 := w7.same s8
    have ne8 := w7.ne n8
    repeat walk_at "rd"
    refine u_draw w8 (by omega) (by decide) (by decide) fun t5 H9 o9 w9 t5l t5u => ?_
    repeat walk_at "rd"
    refine u_draw w9 (by omega) (by decide) (by decide) fun t6 H10 o10 w10 t6l t6u => ?_
    have o10 := (o8.trans o9).trans o10
    have h8 : H10 a8 = _ := (‹Oth p H9 H10›) _ _ ne8 ((‹Oth p H8 H9›) _ _ ne8 h8)
    repeat walk_at "rd"
    refine w_lst2 fun a11 H11 s11 n11 h11 => ?_
    repeat walk_at "rd"
    refine w_cat (s11 _ _ h8) h11 (by show 4 + 2 ≤ sizeLine; decide) fun a12 H12 s12 n12 h12 => ?_
    have o12 := (o10.same s11).same s12
    have w12 := (w10.same s11).same s12
    have ne12 := (w10.same s11).ne n12
    repeat walk_at "rd"
    refine w_lst4 fun a13 H13 s13 n13 h13 => ?_
    repeat walk_at "rd"
    refine u_one (w12.same s13) (by omega) h13 (w12.ne n13) (by decide) (by decide) fun v H14 hv o14 w14 => ?_
    have k14 : H14 a12 = _ := o14 _ _ ne12 (s13 _ _ h12)
    have o14 := (o12.same s13).trans o14
    obtain ⟨bt, rfl, hbt⟩ : ∃ bt, v = .int bt ∧ 0 ≤ bt ∧ bt ≤ 53 := by
      simp only [List.mem_cons, List.not_mem_nil, or_false] at hv
      rcases hv with rfl | rfl | rfl | rfl <;> exact ⟨_, rfl, by decide, by decide⟩
    repeat walk_at "rd"
    refine u_great w14 (by omega) hbt.1 (by omega) fun t H15 o15 w15 tl tu => ?_
    have k15 : H15 a12 = _ := o15 _ _ ne12 k14
    have o15 := o14.trans o15
    repeat walk_at "rd"
    refine u_one w15 (by omega) k15 ne12 (by show 0 < 6; decide) (by show 6 ≤ 1000; decide) fun v H16 hv o16 w16 => ?_
    have o16 := o15.trans o16
    obtain ⟨pw, rfl, hp⟩ : ∃ pw, v = .int pw ∧ -1074 ≤ pw ∧ pw ≤ 1100 := by
      simp only [List.cons_append, List.nil_append, List.mem_cons, List.not_mem_nil, or_false] at hv
      rcases hv with rfl | rfl | rfl | rfl | rfl | rfl <;> exact ⟨_, rfl, by omega, by omega⟩
    repeat walk_at "rd"
    refine w_tup3 fun a4 H4 s4 n4 h4 => ?_
    refine q a4 H4 sg t (if pw < 971 then pw else 971) (o16.same s4) ((w16.mono (by omega)).same s4) h4 ⟨hs, tl, ?_, by split <;> omega, by split <;> omega⟩
    have := pow_mono (a := bt.toNat) (b := 53) (by omega)
    rw [show (2 : Int) ^ 53 = 9007199254740992 by decide] at this
    omega
theorem u_fin {p : Addr} {n : Nat} {H : Hp} {Q : VK} {E : XK} (hw : Well n H p) (hn : n < 800000) (q : ∀ q H' s t pw, Oth p H H' → Well (n + 40) H' p → H' q = some (.tup [.int s, .int t, .int pw]) → FinA s t pw → Q (.ref q) H') : spFin ([V.ref p] ++ []) H Q E :=
  ⟨p, n, rfl, hw, hn, q⟩
theorem FinA.arg {s t p : Int} (h : FinA s t p) : Arg s (.int t) p (.fin s (red t p).1 (red t p).2) := by
  obtain ⟨hs, t0, t1, p0, p1⟩ := h
  refine .inl ⟨t, rfl, t0, hs, red_fits t0 (by omega) p0 ?_, rfl⟩
  have := bits_small t0 (k := 53) (by rw [show (2 : Int) ^ 53 = 9007199254740992 by decide]; exact t1)
  omega
/-! ### a float -/
def spFlt (CF : Addr) : Sp := fun vs H Q _ => ∃ (p : Addr) (n : Nat), vs = [.ref p] ∧ Well n H p ∧ n < 700000 ∧
  ∀ x f H', Oth p H H' → Well (n + 50) H' p → FlAt CF H' x f → f.ok → Q (.ref x) H'
theorem sc_law_float : FnScope ["well", "sign", "top", "power"] ["well"] (defScope s_law_float) := ⟨rfl, rfl, rfl, by decide +kernel, rfl, by decide +kernel, by decide +kernel⟩
theorem ok_float (T : AllM K mg CF) (k_law_draw : Kn P w K mg base CX0 1 "_law_draw" ["well", "many"] spDraw) (k_law_one : Kn P w K mg base CX0 2 "_law_one" ["well", "some"] spOne) (k_law_finite : Kn P w K mg base CX0 3 "_law_finite" ["well"] spFin)
    (k_Float_init : KnC P w K mg base CX0 2 "Float" CF ["self", "sign", "top", "power"] (spInit CF)) : Kn P w K mg base CX0 4 "_law_float" ["well"] (spFlt CF) := by
  refine T.x_float.kn fun f fd F => ?_
  refine F.ok sc_law_float (fun vs H Q E h => ?_) (fun cdv A outer s H vs Q E hr h => ?_)
  · obtain ⟨p, n, rfl, _⟩ := h
    rfl
  · obtain ⟨p, n, rfl, hw, hn, q⟩ := h
    refine ⟨_, (pss_cons (ps_if (pt_cmpR op_eq (pk k_law_draw hr (pa_cons (pv 0) (pa_cons pe_int pa_nil))) pe_int (nomark _)) (pss_one (ps_ret (pk k_law_one hr (pa_cons (pv 0) (pa_cons (pe_lst (pa_cons (pkC k_Float_init hr (pa_cons pe_int (pa_cons pe_str (pa_cons pe_int pa_nil)))) (pa_cons (pkC k_Float_init hr (pa_cons (pe_un un_neg pe_int) (pa_cons pe_str (pa_cons pe_int pa_nil)))) (pa_cons (pkC k_Float_init hr (pa_cons pe_int (pa_cons pe_str (pa_cons pe_int pa_nil)))) pa_nil)))) pa_nil))))) pss_nil)
      (pss_cons (ps_asg (pk k_law_finite hr (pa_cons (pv 0) pa_nil)) (pg_tup (by rfl) (pgs_cons (pg_name (i := 1) sc_law_float.nd rfl (Or.inl rfl)) (pgs_cons (pg_name (i := 2) sc_law_float.nd rfl (Or.inl rfl)) (pgs_cons (pg_name (i := 3) sc_law_float.nd rfl (Or.inl rfl)) pgs_nil)))))
      (pss_one (ps_ret (pkC k_Float_init hr (pa_cons (pv 1) (pa_cons (pv 2) (pa_cons (pv 3) pa_nil)))))))), ?_⟩
    repeat walk_at "rd"
    refine u_draw hw (by omega) (by decide) (by decide) fun r H1 o1 w1 r0 r1 => ?_
    repeat walk_at "rd"
    refine iD (fun _ => ?_) (fun _ => ?_)
    · repeat walk_at "rd"
      refine u_Float (.inr (.inl ⟨rfl, rfl, .inl rfl, rfl⟩)) fun x1 H2 s2 n2 h2 => ?_
      repeat walk_at "rd"
      refine u_Float (.inr (.inl ⟨rfl, rfl, .inr rfl, rfl⟩)) fun x2 H3 s3 n3 h3 => ?_
      repeat walk_at "rd"
      refine u_Float (.inr (.inr ⟨rfl, rfl, rfl, rfl⟩)) fun x3 H4 s4 n4 h4 => ?_
      repeat walk_at "rd"
      refine w_lst3 fun a5 H5 s5 n5 h5 => ?_
      repeat walk_at "rd"
      have w5 := (((w1.same s2).same s3).same s4).same s5
      refine u_one w5 (by omega) h5 ((((w1.same s2).same s3).same s4).ne n5) (by show 0 < 3; decide) (by show 3 ≤ 1000; decide) fun v H6 hv o6 w6 => ?_
      have o7 := ((((o1.same s2).same s3).same s4).same s5).trans o6
      have k1 : ∀ x f, x ≠ p → FlAt CF H5 x f → FlAt CF H6 x f := fun x f hx ⟨dx, e⟩ => ⟨dx, o6 _ _ hx e⟩
      simp only [List.mem_cons, List.not_mem_nil, or_false] at hv
      rcases hv with rfl | rfl | rfl
      · exact q x1 _ H6 o7 (w6.mono (by omega)) (k1 _ _ (w1.ne n2) (((h2.same s3).same s4).same s5)) (.inl rfl)
      · exact q x2 _ H6 o7 (w6.mono (by omega)) (k1 _ _ ((w1.same s2).ne n3) ((h3.same s4).same s5)) (.inr rfl)
      · exact q x3 _ H6 o7 (w6.mono (by omega)) (k1 _ _ (((w1.same s2).same s3).ne n4) (h4.same s5)) trivial
    · repeat walk_at "rd"
      refine u_fin w1 (by omega) fun a2 H2 s t pw o2 w2 h2 fa => ?_
      refine w_gtup h2 rfl ?_
      repeat walk_at "rd"
      refine u_Float fa.arg fun x H3 s3 n3 h3 => ?_
      exact q x _ H3 ((o1.trans o2).same s3) ((w2.same s3).mono (by omega)) h3 fa.arg.ok
end
end Nu

set_option Elab.async false
set_option linter.all false
set_option maxRecDepth 100000
set_option autoImplicit false
set_option maxHeartbeats 4000000
namespace Nu
open PySem PySem.Spec PyProof.Rows L2 Rd
local macro_rules | `(tactic| walk_at "hp") => `(tactic| first | assumption | (refine same_get ?sm ?_; (case sm => assumption); walk_at "hp"))
local macro_rules | `(tactic| walk_at "rd") => `(tactic| first
  | (with_reducible show Ends.nx _ _ _; with_reducible refine w_nx ?_)
  | with_reducible refine w_rt ?_
  | (with_reducible show Ends.bk _ _ _; with_reducible refine w_bk ?_)
  | (with_reducible show Ends.ct _ _ _; with_reducible refine w_ct ?_)
  | with_reducible refine w_seq ?_
  | with_reducible refine w_next ?_
  | with_reducible refine w_ret ?_
  | with_reducible refine w_ifS ?_
  | with_reducible refine w_asg ?_
  | with_reducible refine w_name ?_
  | with_reducible refine w_par ?_
  | with_reducible refine w_parI ?_
  | with_reducible refine w_ii ?_
  | with_reducible refine w_i1 ?_
  | with_reducible refine w_drop ?_
  | with_reducible refine w_sFld ?_
  | ((with_reducible refine' w_var ?rdh ?_); (case rdh => exact rfl))
  | with_reducible refine w_c ?_
  | with_reducible refine w_op ?_
  | with_reducible refine w_un ?_
  | with_reducible refine w_I0 ?_
  | with_reducible refine w_U ?_
  | with_reducible refine w_bits ?_
  | with_reducible refine w_bitsI ?_
  | with_reducible refine w_tup ?_
  | with_reducible refine w_lst ?_
  | with_reducible refine w_nil ?_
  | with_reducible refine w_cons ?_
  | with_reducible refine w_fld ?_
  | with_reducible refine w_call ?_
  | with_reducible refine w_make ?_
  | with_reducible refine w_gsub ?_
  | with_reducible refine w_int1 ?_
  | with_reducible refine w_intB ?_
  | with_reducible refine w_for ?_
  | with_reducible refine w_rng1 ?_
  | with_reducible refine w_iList ?_
  | with_reducible refine w_iTup ?_
  | with_reducible refine w_makeD ?_
  | with_reducible refine w_nn ?_
  | with_reducible refine w_subB ?_
  | with_reducible refine w_meth ?_
  | with_reducible refine w_cb ?_
  | with_reducible refine w_test ?_
  | with_reducible refine w_B ?_
  | with_reducible refine w_bl ?_
  | with_reducible refine w_andV ?_
  | with_reducible refine w_orV ?_
  | with_reducible refine w_notV ?_
  | with_reducible refine w_and ?_
  | with_reducible refine w_or ?_
  | with_reducible refine w_not ?_
  | with_reducible refine w_if ?_
  | with_reducible refine w_gnil ?_
  | with_reducible refine w_gcons ?_
  | with_reducible refine iT ?_
  | with_reducible refine iF ?_
  | with_reducible refine w_eqI ?_
  | with_reducible refine w_neI ?_
  | with_reducible refine w_eqS ?_
  | with_reducible refine w_eqIS ?_
  | with_reducible refine w_eqSI ?_)

abbrev s_Float_eq : Stmt := inClass (top 12) 2
abbrev s_nan : Stmt := top 17
abbrev s_added : Stmt := top 27
abbrev s_multiplied : Stmt := top 28
abbrev s_divided : Stmt := top 29
abbrev s_floored : Stmt := top 30
abbrev s_remainder : Stmt := top 31
abbrev s_by_floats : Stmt := top 26
abbrev s_arith : Stmt := top 23
abbrev s_wrapped : Stmt := top 20
structure AllN (K : PySem.W.Frag) (mg : Str → Option Value) (CF : Addr) : Prop extends AllM K mg CF where
  q_Float : EqC K CF
  x_eq : TxM K CF "__eq__" "Float.__eq__" s_Float_eq ["self", "other"]
  x_nan : Tx K mg "nan" "nan" s_nan []
  x_added : Tx K mg "added" "added" s_added ["one", "other"]
  x_multiplied : Tx K mg "multiplied" "multiplied" s_multiplied ["one", "other"]
  x_divided : Tx K mg "divided" "divided" s_divided ["one", "other"]
  x_floored : Tx K mg "floored" "floored" s_floored ["number"]
  x_remainder : Tx K mg "remainder" "remainder" s_remainder ["one", "other"]
  x_by_floats : Tx K mg "by_floats" "by_floats" s_by_floats ["word", "one", "other"]
  x_arith : Tx K mg "arith" "arith" s_arith ["word", "one", "other"]
  x_wrapped : Tx K mg "wrapped" "wrapped" s_wrapped ["number"]
/-! ### numbers -/
inductive Nm where
  | int (i : Int)
  | fl (f : Fl)
def NmAt (CF : Addr) (H : Hp) (x : V) : Nm → Prop
  | .int i => x = .int i ∧ bits i ≤ 70
  | .fl f => ∃ a, x = .ref a ∧ FlAt CF H a f ∧ f.ok
theorem NmAt.same {CF : Addr} {H H' : Hp} {x : V} : ∀ {n : Nm}, NmAt CF H x n → Same H H' → NmAt CF H' x n
  | .int _, h, _ => h
  | .fl _, ⟨a, e, h, o⟩, s => ⟨a, e, h.same s, o⟩
theorem bits_mul (a b : Int) : bits (a * b) ≤ bits a + bits b := by
  have := intBits_mul_le (x := a) (y := b) (m := Builtin.Int.intBits a) (n := Builtin.Int.intBits b) (Nat.le_refl _) (Nat.le_refl _)
  unfold bits
  omega
theorem bits_pow (k : Nat) : bits (2 ^ k) = k + 1 := bits_eq (Int.le_refl _) (by rw [Int.pow_succ]; have := pow_pos2 k; omega)
theorem ratT_bits {s t p : Int} (h : (Fl.fin s t p).ok) : bits (ratT s t p) ≤ 1200 := by
  obtain ⟨bs, bt, p1, p2, t0, tp⟩ := ok_bounds h
  unfold ratT
  split
  · have := bits_mul s t; omega
  · have h1 := bits_mul s (t * 2 ^ p.toNat)
    have h2 := bits_mul_pow t0 p.toNat
    omega
theorem ratB_bits {s t p : Int} (h : (Fl.fin s t p).ok) : bits (ratB p) ≤ 1200 := by
  obtain ⟨bs, bt, p1, p2, t0, tp⟩ := ok_bounds h
  unfold ratB
  split
  · rw [bits_pow]; omega
  · decide
theorem ratB_pos (p : Int) : 0 < ratB p := by
  unfold ratB
  split
  · exact pow_pos2 _
  · decide
section
variable {P : Program} {w : World} {K : PySem.W.Frag} {mg : Str → Option Value} {base : Heap} {CF : Addr}
theorem NmAt.says (T : All K mg CF) {H : Hp} {x : V} {n : Nm} (h : NmAt CF H x n) : ∃ pl fl, Says K CF H x pl false false fl ∧ (fl || ((pl || false) && !false)) = true ∧ (fl = match n with | .int _ => false | .fl _ => true) := by
  cases n with
  | int i =>
    obtain ⟨rfl, _⟩ := h
    exact ⟨true, false, says_int T, rfl, rfl⟩
  | fl f =>
    obtain ⟨a, rfl, ⟨dx, e⟩, _⟩ := h
    exact ⟨false, true, says_fl T e, rfl, rfl⟩
end
/-! ### the sum of two floats -/
def addM : Fl → Fl → Fl
  | .nan, _ => .nan
  | _, .nan => .nan
  | .inf s, .inf r => if s = r then .inf s else .nan
  | .inf s, .fin _ _ _ => .inf s
  | .fin _ _ _, .inf r => .inf r
  | .fin s t p, .fin r u q => if t = 0 ∧ u = 0 then .fin (if r > s then r else s) 0 0 else
    nearM (if ratT s t p * ratB q + ratT r u q * ratB p < 0 then -1 else 1) (if ratT s t p * ratB q + ratT r u q * ratB p < 0 then -(ratT s t p * ratB q + ratT r u q * ratB p) else ratT s t p * ratB q + ratT r u q * ratB p) (ratB p * ratB q)
theorem addM_ii (s r : Int) : addM (.inf s) (.inf r) = if s = r then .inf s else .nan := rfl
theorem addM_ff (s t p r u q : Int) : addM (.fin s t p) (.fin r u q) = if t = 0 ∧ u = 0 then .fin (if r > s then r else s) 0 0 else
    nearM (if ratT s t p * ratB q + ratT r u q * ratB p < 0 then -1 else 1) (if ratT s t p * ratB q + ratT r u q * ratB p < 0 then -(ratT s t p * ratB q + ratT r u q * ratB p) else ratT s t p * ratB q + ratT r u q * ratB p) (ratB p * ratB q) := rfl
theorem bits_abs (n : Int) : bits (if n < 0 then -n else n) = bits n := by
  unfold bits
  split
  · rw [show Builtin.Int.intBits (-n) = Builtin.Int.intBits n by simp [Builtin.Int.intBits]]
  · rfl
theorem bits_add {a b : Int} {k : Nat} (ha : bits a ≤ k) (hb : bits b ≤ k) : bits (a + b) ≤ ((k + 1 : Nat) : Int) := by
  have h1 := bits_le.1 ha
  have h2 := bits_le.1 hb
  refine bits_le.2 ?_
  have h3 : (a + b).natAbs ≤ a.natAbs + b.natAbs := Int.natAbs_add_le a b
  rw [Nat.pow_succ]
  omega
theorem ratT_b {s t p : Int} (h : (Fl.fin s t p).ok) : bits (ratT s t p) ≤ 1025 := by
  obtain ⟨bs, bt, p1, p2, t0, tp⟩ := ok_bounds h
  unfold ratT
  split
  · have := bits_mul s t; omega
  · have h1 := bits_mul s (t * 2 ^ p.toNat)
    have h2 := bits_mul_pow t0 p.toNat
    omega
theorem ratB_b {s t p : Int} (h : (Fl.fin s t p).ok) : bits (ratB p) ≤ 1075 := by
  obtain ⟨bs, bt, p1, p2, t0, tp⟩ := ok_bounds h
  unfold ratB
  split
  · rw [bits_pow]; omega
  · decide
theorem abs_nn (n : Int) : 0 ≤ (if n < 0 then -n else n) := by split <;> omega
theorem sgn_pm (n : Int) : (if n < 0 then (-1 : Int) else 1) = 1 ∨ (if n < 0 then (-1 : Int) else 1) = -1 := by
  split
  · exact .inr rfl
  · exact .inl rfl
theorem top_bits {s t p r u q : Int} (h : (Fl.fin s t p).ok) (k : (Fl.fin r u q).ok) : bits (ratT s t p * ratB q + ratT r u q * ratB p) ≤ 2150 := by
  have h1 := bits_mul (ratT s t p) (ratB q)
  have h2 := bits_mul (ratT r u q) (ratB p)
  have := ratT_b h
  have := ratB_b h
  have := ratT_b k
  have := ratB_b k
  have := bits_add (a := ratT s t p * ratB q) (b := ratT r u q * ratB p) (k := 2100) (by omega) (by omega)
  omega
theorem bot_bits {s t p r u q : Int} (h : (Fl.fin s t p).ok) (k : (Fl.fin r u q).ok) : bits (ratB p * ratB q) ≤ 2150 := by
  have h1 := bits_mul (ratB p) (ratB q)
  have := ratB_b h
  have := ratB_b k
  omega
theorem nearM_ok {s t b : Int} (hs : s = 1 ∨ s = -1) (ht : 0 ≤ t) (hb : 0 < b) : (nearM s t b).ok := by
  unfold nearM
  by_cases z : t = 0
  · rw [if_pos z]
    exact ⟨hs, by decide, by decide, fun _ => rfl, fun h => absurd rfl h⟩
  · rw [if_neg z]
    by_cases c : 1024 < bits (wh t b) + p2 t b
    · rw [if_pos c]
      exact hs
    · rw [if_neg c]
      exact Arg.ok (tv := .int (wh t b)) (p := p2 t b) (.inl ⟨wh t b, rfl, wh_nn ht hb, hs, wh_fits ht hb (Int.not_lt.mp c), rfl⟩)
theorem addM_ok {f g : Fl} (hf : f.ok) (hg : g.ok) : (addM f g).ok := by
  cases f with
  | nan => exact trivial
  | inf s =>
    cases g with
    | nan => exact trivial
    | inf r =>
      rw [addM_ii]
      split
      · exact hf
      · exact trivial
    | fin r u q => exact hf
  | fin s t p =>
    cases g with
    | nan => exact trivial
    | inf r => exact hg
    | fin r u q =>
      rw [addM_ff]
      split
      · obtain ⟨h1, _⟩ := hf
        obtain ⟨h2, _⟩ := hg
        refine ⟨?_, by decide, by decide, fun _ => rfl, fun h => absurd rfl h⟩
        split <;> assumption
      · exact nearM_ok (sgn_pm _) (abs_nn _) (Int.mul_pos (ratB_pos p) (ratB_pos q))
section
variable {P : Program} {w : World} {K : PySem.W.Frag} {mg : Str → Option Value} {base : Heap} {CF : Addr}
def spNan (CF : Addr) : Sp := fun vs H Q _ => vs = [] ∧ NewF CF .nan H Q
theorem sc_nan : FnScope [] [] (defScope s_nan) := ⟨rfl, rfl, rfl, by decide +kernel, rfl, by decide +kernel, by decide +kernel⟩
theorem ok_nan (T : AllN K mg CF) (k_Float_init : KnC P w K mg base CX0 2 "Float" CF ["self", "sign", "top", "power"] (spInit CF)) : Kn P w K mg base CX0 4 "nan" [] (spNan CF) := by
  refine T.x_nan.kn fun f fd F => ?_
  refine F.ok sc_nan (fun vs H Q E h => ?_) (fun cdv A outer s H vs Q E hr h => ?_)
  · obtain ⟨rfl, _⟩ := h
    rfl
  · obtain ⟨rfl, q⟩ := h
    refine ⟨_, (pss_one (ps_ret (pkC k_Float_init hr (pa_cons pe_int (pa_cons pe_str (pa_cons pe_int pa_nil)))))), ?_⟩
    repeat walk_at "rd"
    exact u_Float (.inr (.inr ⟨rfl, rfl, rfl, rfl⟩)) fun x H' s1 n1 h1 => q x H' s1 n1 h1
/-- added(f, g), no nan among them -/
def spAdded (CF : Addr) : Sp := fun vs H Q _ => ∃ a b f g, vs = [.ref a, .ref b] ∧ FlAt CF H a f ∧ FlAt CF H b g ∧ f.ok ∧ g.ok ∧ f ≠ .nan ∧ g ≠ .nan ∧ ∀ x H', Same H H' → FlAt CF H' x (addM f g) → Q (.ref x) H'
theorem s_inf {a : Str} (h : ¬ a = "inf" := by decide +kernel) : ¬ V.str a = V.str "inf" := fun z => h (V.str.inj z)
theorem sc_added : FnScope ["one", "other", "first", "second", "top"] ["one", "other"] (defScope s_added) := ⟨rfl, rfl, rfl, by decide +kernel, rfl, by decide +kernel, by decide +kernel⟩
theorem ok_added (T : AllN K mg CF) (k_nan : Kn P w K mg base CX0 4 "nan" [] (spNan CF)) (k_Float_init : KnC P w K mg base CX0 2 "Float" CF ["self", "sign", "top", "power"] (spInit CF)) (k_Float_ratio : KnM P w K mg base CX0 1 CF "ratio" ["self"] (spRatio CF))
    (k_sign_of : Kn P w K mg base CX0 1 "sign_of" ["is_negative"] spSign) (k_nearest : Kn P w K mg base CX0 5 "nearest" ["sign", "top", "bottom"] (spNear CF)) : Kn P w K mg base CX0 6 "added" ["one", "other"] (spAdded CF) := by
  refine T.x_added.kn fun f fd F => ?_
  refine F.ok sc_added (fun vs H Q E h => ?_) (fun cdv A outer s H vs Q E hr h => ?_)
  · obtain ⟨a, b, f, g, rfl, _⟩ := h
    rfl
  · obtain ⟨a, b, f, g, rfl, hf, hg, okf, okg, nf, ng, q⟩ := h
    refine ⟨_, (pss_cons (ps_if (PW.pt (pw_or (pt_cmpR op_eq (pe_fld (pv 0) rfl) pe_str (nomark _)) (pw_or1 (pt_cmpR op_eq (pe_fld (pv 1) rfl) pe_str (nomark _))))) (pss_cons (ps_if (PW.pt (pw_and (pt_cmpR op_eq (pe_fld (pv 0) rfl) (pe_fld (pv 1) rfl) (nomark _)) (pw_and1 (pt_cmpR op_ne (pe_fld (pv 0) rfl) (pe_fld (pv 1) rfl) (nomark _))))) (pss_one (ps_ret (pk0 k_nan hr))) pss_nil)
      (pss_one (ps_ret (pe_ifExp (pt_cmpR op_eq (pe_fld (pv 0) rfl) pe_str (nomark _)) (pv 0) (pv 1))))) pss_nil)
      (pss_cons (ps_if (PW.pt (pw_and (pt_cmpR op_eq (pe_fld (pv 0) rfl) pe_int (nomark _)) (pw_and1 (pt_cmpR op_eq (pe_fld (pv 1) rfl) pe_int (nomark _))))) (pss_one (ps_ret (pkC k_Float_init hr (pa_cons (pe_callB (call_max2 (by rfl)) (by rfl) T.b_max boot_max (pa_cons (pe_fld (pv 0) rfl) (pa_cons (pe_fld (pv 1) rfl) pa_nil))) (pa_cons pe_int (pa_cons pe_int pa_nil)))))) pss_nil)
      (pss_cons (ps_par (by rfl) sc_added.nd (i := 2) (j := 3) rfl rfl (by decide) rfl rfl (pa_cons (pkM0 k_Float_ratio T.l_Float hr (pv 0) rfl) (pa_cons (pkM0 k_Float_ratio T.l_Float hr (pv 1) rfl) pa_nil)) (by rfl))
      (pss_cons (ps_set (i := 4) sc_added.nd rfl (Or.inl rfl) (pe_op op_add (pe_op op_mulX (pe_ix ix_tup (pv 2) pe_int (fun _ _ => rfl)) (pe_ix ix_tup (pv 3) pe_int (fun _ _ => rfl))) (pe_op op_mulX (pe_ix ix_tup (pv 3) pe_int (fun _ _ => rfl)) (pe_ix ix_tup (pv 2) pe_int (fun _ _ => rfl)))))
      (pss_one (ps_ret (pk k_nearest hr (pa_cons (pk k_sign_of hr (pa_cons (pe_cmpR op_lt (pv 4) pe_int (nomark _)) pa_nil)) (pa_cons (pe_callB call_abs (by rfl) T.b_abs boot_abs (pa_cons (pv 4) pa_nil)) (pa_cons (pe_op op_mulX (pe_ix ix_tup (pv 2) pe_int (fun _ _ => rfl)) (pe_ix ix_tup (pv 3) pe_int (fun _ _ => rfl))) pa_nil)))))))))), ?_⟩
    obtain ⟨dx, h1⟩ := id hf
    obtain ⟨dy, h2⟩ := id hg
    repeat walk_at "rd"
    refine w_fldI h1 T.l_Float T.n_top (flds_t _ _ _) ?_
    repeat walk_at "rd"
    cases f with
    | nan => exact absurd rfl nf
    | inf s =>
      refine w_eqS ?_
      repeat walk_at "rd"
      refine iD (fun _ => ?_) (fun z => absurd rfl z)
      refine iT ?_
      repeat walk_at "rd"
      refine w_fldI h1 T.l_Float T.n_top (flds_t _ _ _) ?_
      repeat walk_at "rd"
      refine w_fldI h2 T.l_Float T.n_top (flds_t _ _ _) ?_
      cases g with
      | nan => exact absurd rfl ng
      | inf r =>
        refine w_eqS ?_
        repeat walk_at "rd"
        refine iD (fun _ => ?_) (fun z => absurd rfl z)
        repeat walk_at "rd"
        refine w_fldI h1 T.l_Float T.n_sign (flds_s _ _ _) ?_
        repeat walk_at "rd"
        refine w_fldI h2 T.l_Float T.n_sign (flds_s _ _ _) ?_
        refine w_neI ?_
        repeat walk_at "rd"
        rw [addM_ii] at q
        refine iN (fun z => ?_) (fun z => ?_)
        · rw [if_neg (show ¬ s = r from z)] at q
          repeat walk_at "rd"
          exact ⟨rfl, fun x H' s1 n1 h1 => q x H' s1 h1⟩
        · rw [if_pos (show s = r from z)] at q
          repeat walk_at "rd"
          refine w_fldI h1 T.l_Float T.n_top (flds_t _ _ _) ?_
          repeat walk_at "rd"
          refine w_eqS ?_
          repeat walk_at "rd"
          refine iD (fun _ => ?_) (fun z => absurd rfl z)
          repeat walk_at "rd"
          exact q a H (Same.refl H) hf
      | fin r u p2 =>
        refine w_eqSI ?_
        repeat walk_at "rd"
        refine w_fldI h1 T.l_Float T.n_top (flds_t _ _ _) ?_
        repeat walk_at "rd"
        refine w_eqS ?_
        repeat walk_at "rd"
        refine iD (fun _ => ?_) (fun z => absurd rfl z)
        repeat walk_at "rd"
        exact q a H (Same.refl H) hf
    | fin s t p =>
      refine w_eqIS ?_
      repeat walk_at "rd"
      refine w_fldI h2 T.l_Float T.n_top (flds_t _ _ _) ?_
      repeat walk_at "rd"
      cases g with
      | nan => exact absurd rfl ng
      | inf r =>
        refine w_eqS ?_
        repeat walk_at "rd"
        refine iD (fun _ => ?_) (fun z => absurd rfl z)
        repeat walk_at "rd"
        refine w_fldI h1 T.l_Float T.n_top (flds_t _ _ _) ?_
        repeat walk_at "rd"
        refine w_fldI h2 T.l_Float T.n_top (flds_t _ _ _) ?_
        refine w_eqIS ?_
        repeat walk_at "rd"
        refine w_fldI h1 T.l_Float T.n_top (flds_t _ _ _) ?_
        repeat walk_at "rd"
        refine w_eqIS ?_
        repeat walk_at "rd"
        exact q b H (Same.refl H) hg
      | fin r u p2 =>
        refine w_eqIS ?_
        repeat walk_at "rd"
        refine w_fldI h1 T.l_Float T.n_top (flds_t _ _ _) ?_
        repeat walk_at "rd"
        refine w_eqI ?_
        repeat walk_at "rd"
        rw [addM_ff] at q
        have tb := top_bits okf okg
        have bb := bot_bits okf okg
        have bp := Int.mul_pos (ratB_pos p) (ratB_pos p2)
        refine iD (fun z1 => ?_) (fun z1 => ?_)
        · repeat walk_at "rd"
          refine w_fldI h2 T.l_Float T.n_top (flds_t _ _ _) ?_
          repeat walk_at "rd"
          refine w_eqI ?_
          repeat walk_at "rd"
          refine iD (fun z2 => ?_) (fun z2 => ?_)
          · rw [if_pos (show t = 0 ∧ u = 0 from ⟨z1, z2⟩)] at q
            repeat walk_at "rd"
            refine w_fldI h1 T.l_Float T.n_sign (flds_s _ _ _) ?_
            repeat walk_at "rd"
            refine w_fldI h2 T.l_Float T.n_sign (flds_s _ _ _) ?_
            repeat walk_at "rd"
            refine u_Float (.inl ⟨0, rfl, by decide, ?_, by rw [red_zero]; decide, rfl⟩) fun x H' s1 n1 k1 => ?_
            · obtain ⟨g1, _⟩ := okf
              obtain ⟨g2, _⟩ := okg
              show (if r > s then r else s) = 1 ∨ (if r > s then r else s) = -1
              split <;> assumption
            · rw [red_zero] at k1
              exact q x H' s1 k1
          · rw [if_neg (show ¬ (t = 0 ∧ u = 0) from fun z => z2 z.2)] at q
            repeat walk_at "rd"
            refine w_methI h1 (lk_rat _ _ _) ?_
            repeat walk_at "rd"
            refine ⟨a, s, t, p, rfl, hf, okf, fun q1 H1 s1 n1 e1 => ?_⟩
            repeat walk_at "rd"
            refine w_methI (s1 _ _ h2) (lk_rat _ _ _) ?_
            repeat walk_at "rd"
            refine ⟨b, r, u, p2, rfl, hg.same s1, okg, fun q2 H2 s2 n2 e2 => ?_⟩
            have e1 := s2 _ _ e1
            repeat walk_at "rd"
            refine w_ixT e1 (v := .int (ratT s t p)) rfl ?_
            repeat walk_at "rd"
            refine w_ixT e2 (v := .int (ratB p2)) rfl ?_
            refine w_I (cmulx (i := ratT s t p) (j := ratB p2) (by have := ratT_b okf; omega) (by have := ratB_b okg; omega)) ?_
            repeat walk_at "rd"
            refine w_ixT e2 (v := .int (ratT r u p2)) rfl ?_
            repeat walk_at "rd"
            refine w_ixT e1 (v := .int (ratB p)) rfl ?_
            refine w_I (cmulx (i := ratT r u p2) (j := ratB p) (by have := ratT_b okg; omega) (by have := ratB_b okf; omega)) ?_
            repeat walk_at "rd"
            refine ⟨_, rfl, ?_⟩
            repeat walk_at "rd"
            refine w_ixT e1 (v := .int (ratB p)) rfl ?_
            repeat walk_at "rd"
            refine w_ixT e2 (v := .int (ratB p2)) rfl ?_
            refine w_I (cmulx (i := ratB p) (j := ratB p2) (by have := ratB_b okf; omega) (by have := ratB_b okg; omega)) ?_
            repeat walk_at "rd"
            have es : (if decide (ratT s t p * ratB p2 + ratT r u p2 * ratB p < 0) = true then (-1 : Int) else 1) = if ratT s t p * ratB p2 + ratT r u p2 * ratB p < 0 then -1 else 1 := by simp only [decide_eq_true_eq]
            rw [es]
            exact ⟨_, _, _, rfl, sgn_pm _, abs_nn _, bp, by rw [bits_abs]; omega, by omega, fun x H' s3 n3 h3 => q x H' (s1.trans (s2.trans s3)) h3⟩
        · rw [if_neg (show ¬ (t = 0 ∧ u = 0) from fun z => z1 z.1)] at q
          repeat walk_at "rd"
          refine w_methI h1 (lk_rat _ _ _) ?_
          repeat walk_at "rd"
          refine ⟨a, s, t, p, rfl, hf, okf, fun q1 H1 s1 n1 e1 => ?_⟩
          repeat walk_at "rd"
          refine w_methI (s1 _ _ h2) (lk_rat _ _ _) ?_
          repeat walk_at "rd"
          refine ⟨b, r, u, p2, rfl, hg.same s1, okg, fun q2 H2 s2 n2 e2 => ?_⟩
          have e1 := s2 _ _ e1
          repeat walk_at "rd"
          refine w_ixT e1 (v := .int (ratT s t p)) rfl ?_
          repeat walk_at "rd"
          refine w_ixT e2 (v := .int (ratB p2)) rfl ?_
          refine w_I (cmulx (i := ratT s t p) (j := ratB p2) (by have := ratT_b okf; omega) (by have := ratB_b okg; omega)) ?_
          repeat walk_at "rd"
          refine w_ixT e2 (v := .int (ratT r u p2)) rfl ?_
          repeat walk_at "rd"
          refine w_ixT e1 (v := .int (ratB p)) rfl ?_
          refine w_I (cmulx (i := ratT r u p2) (j := ratB p) (by have := ratT_b okg; omega) (by have := ratB_b okf; omega)) ?_
          repeat walk_at "rd"
          refine ⟨_, rfl, ?_⟩
          repeat walk_at "rd"
          refine w_ixT e1 (v := .int (ratB p)) rfl ?_
          repeat walk_at "rd"
          refine w_ixT e2 (v := .int (ratB p2)) rfl ?_
          refine w_I (cmulx (i := ratB p) (j := ratB p2) (by have := ratB_b okf; omega) (by have := ratB_b okg; omega)) ?_
          repeat walk_at "rd"
          have es : (if decide (ratT s t p * ratB p2 + ratT r u p2 * ratB p < 0) = true then (-1 : Int) else 1) = if ratT s t p * ratB p2 + ratT r u p2 * ratB p < 0 then -1 else 1 := by simp only [decide_eq_true_eq]
          rw [es]
          exact ⟨_, _, _, rfl, sgn_pm _, abs_nn _, bp, by rw [bits_abs]; omega, by omega, fun x H' s3 n3 h3 => q x H' (s1.trans (s2.trans s3)) h3⟩
end
end Nu

set_option Elab.async false
set_option linter.all false
set_option maxRecDepth 100000
set_option autoImplicit false
set_option maxHeartbeats 4000000
namespace Nu
open PySem PySem.Spec PyProof.Rows L2 Rd
local macro_rules | `(tactic| walk_at "hp") => `(tactic| first | assumption | (refine same_get ?sm ?_; (case sm => assumption); walk_at "hp"))
local macro_rules | `(tactic| walk_at "rd") => `(tactic| first
  | (with_reducible show Ends.nx _ _ _; with_reducible refine w_nx ?_)
  | with_reducible refine w_rt ?_
  | (with_reducible show Ends.bk _ _ _; with_reducible refine w_bk ?_)
  | (with_reducible show Ends.ct _ _ _; with_reducible refine w_ct ?_)
  | with_reducible refine w_seq ?_
  | with_reducible refine w_next ?_
  | with_reducible refine w_ret ?_
  | with_reducible refine w_ifS ?_
  | with_reducible refine w_asg ?_
  | with_reducible refine w_name ?_
  | with_reducible refine w_par ?_
  | with_reducible refine w_parI ?_
  | with_reducible refine w_ii ?_
  | with_reducible refine w_i1 ?_
  | with_reducible refine w_drop ?_
  | with_reducible refine w_sFld ?_
  | ((with_reducible refine' w_var ?rdh ?_); (case rdh => exact rfl))
  | with_reducible refine w_c ?_
  | with_reducible refine w_op ?_
  | with_reducible refine w_un ?_
  | with_reducible refine w_I0 ?_
  | with_reducible refine w_U ?_
  | with_reducible refine w_bits ?_
  | with_reducible refine w_bitsI ?_
  | with_reducible refine w_tup ?_
  | with_reducible refine w_lst ?_
  | with_reducible refine w_nil ?_
  | with_reducible refine w_cons ?_
  | with_reducible refine w_fld ?_
  | with_reducible refine w_call ?_
  | with_reducible refine w_make ?_
  | with_reducible refine w_gsub ?_
  | with_reducible refine w_int1 ?_
  | with_reducible refine w_intB ?_
  | with_reducible refine w_for ?_
  | with_reducible refine w_rng1 ?_
  | with_reducible refine w_iList ?_
  | with_reducible refine w_iTup ?_
  | with_reducible refine w_makeD ?_
  | with_reducible refine w_nn ?_
  | with_reducible refine w_subB ?_
  | with_reducible refine w_meth ?_
  | with_reducible refine w_cb ?_
  | with_reducible refine w_test ?_
  | with_reducible refine w_B ?_
  | with_reducible refine w_bl ?_
  | with_reducible refine w_andV ?_
  | with_reducible refine w_orV ?_
  | with_reducible refine w_notV ?_
  | with_reducible refine w_and ?_
  | with_reducible refine w_or ?_
  | with_reducible refine w_not ?_
  | with_reducible refine w_if ?_
  | with_reducible refine w_gnil ?_
  | with_reducible refine w_gcons ?_
  | with_reducible refine iT ?_
  | with_reducible refine iF ?_
  | with_reducible refine w_eqI ?_
  | with_reducible refine w_neI ?_
  | with_reducible refine w_eqS ?_
  | with_reducible refine w_eqIS ?_
  | with_reducible refine w_eqSI ?_)

section
variable {P : Program} {w : World} {K : PySem.W.Frag} {mg : Str → Option Value} {base : Heap} {CF : Addr}
/-! ### == of floats -/
def fdat : V → PyData
  | .int t => .int t
  | .str x => .str x
  | _ => .none
def fall (f : Fl) : PyData := .tuple [.int f.s, fdat f.t, .int f.p]
def feq (f g : Fl) : Bool := PyData.eqv (fall f) (fall g)
theorem feq_self (f : Fl) : feq f f = true := by
  cases f <;> simp [feq, fall, fdat, Fl.s, Fl.t, Fl.p, PyData.eqv, PyData.eqvAll]
theorem fdat_dp (f : Fl) (H : Hp) : Dp K H f.t (fdat f.t) := by
  cases f with
  | fin s t p => exact .int t
  | inf s => exact .str _
  | nan => exact .str _
theorem fall_dp {f : Fl} {H : Hp} {a : Addr} (h : H a = some (.tup [.int f.s, f.t, .int f.p])) : Dp K H (.ref a) (fall f) :=
  .tup (SqT.of h) (.cons (.int _) (.cons (fdat_dp f H) (.cons (.int _) .nil)))
theorem fall_shaped (f : Fl) : SeqAt.shaped (fall f) = true := by
  have e1 : PyData.canLay0 (.str "inf") = true := by decide +kernel
  have e2 : PyData.canLay0 (.str "nan") = true := by decide +kernel
  have e3 : ∀ i : Int, PyData.canLay0 (.int i) = true := fun i => by simp [PyData.canLay0]
  have e4 : ∀ a b c : PyData, PyData.canLay0 a = true → PyData.canLay0 b = true → PyData.canLay0 c = true → PyData.canLay0 (.tuple [a, b, c]) = true := fun a b c h1 h2 h3 => by simp [PyData.canLay0, PyData.canLayAll0, h1, h2, h3]
  have e5 : PyData.canLay0 (fall f) = true := by
    cases f with
    | fin s t p => exact e4 _ _ _ (e3 _) (e3 _) (e3 _)
    | inf s => exact e4 _ _ _ (e3 _) e1 (e3 _)
    | nan => exact e4 _ _ _ (e3 _) e2 (e3 _)
  have e6 : (fall f).depth ≤ 64 := by
    cases f <;> simp [fall, fdat, Fl.t, PyData.depth, PyData.depthAll]
  unfold SeqAt.shaped
  rw [e5, decide_eq_true e6]
  rfl
def spFEq (CF : Addr) : Sp := fun vs H Q _ => ∃ a b f g, vs = [.ref a, .ref b] ∧ FlAt CF H a f ∧ FlAt CF H b g ∧ ∀ H', Same H H' → Q (.bl (feq f g)) H'
theorem sc_Float_eq : FnScope ["self", "other"] ["self", "other"] (defScope s_Float_eq) := ⟨rfl, rfl, rfl, by decide +kernel, rfl, by decide +kernel, by decide +kernel⟩
theorem ok_eq (T : AllN K mg CF) : KnM P w K mg base CX0 1 CF "__eq__" ["self", "other"] (spFEq CF) := by
  refine T.x_eq.kn fun f fd F => ?_
  refine F.ok sc_Float_eq (fun vs H Q E h => ?_) (fun cdv A outer s H vs Q E hr h => ?_)
  · obtain ⟨a, b, f, g, rfl, _⟩ := h
    rfl
  · obtain ⟨a, b, f, g, rfl, hf, hg, q⟩ := h
    refine ⟨_, (pss_cons (ps_if (pt_not (pt_val (pe_callB call_isi (by rfl) T.b_isinstance boot_isinstance (pa_cons (pv 1) (pa_cons (pg "Float" T.g_Float (rref _)) pa_nil))))) (pss_one ps_never) pss_nil)
      (pss_one (ps_ret (pe_cmpR (op_eqD hr.units) (pe_tup (pa_cons (pe_fld (pv 0) rfl) (pa_cons (pe_fld (pv 0) rfl) (pa_cons (pe_fld (pv 0) rfl) pa_nil)))) (pe_tup (pa_cons (pe_fld (pv 1) rfl) (pa_cons (pe_fld (pv 1) rfl) (pa_cons (pe_fld (pv 1) rfl) pa_nil)))) (nomark _))))), ?_⟩
    obtain ⟨dx, h1⟩ := id hf
    obtain ⟨dy, h2⟩ := id hg
    obtain ⟨t, ty, i1, i2, i3, i4⟩ := says_fl T.toAll h2
    repeat walk_at "rd"
    refine w_isi (.own CF) ty i4 ?_
    repeat walk_at "rd"
    refine iF ?_
    repeat walk_at "rd"
    refine w_fldI h1 T.l_Float T.n_sign (flds_s _ _ _) ?_
    repeat walk_at "rd"
    refine w_fldI h1 T.l_Float T.n_top (flds_t _ _ _) ?_
    repeat walk_at "rd"
    refine w_fldI h1 T.l_Float T.n_power (flds_p _ _ _) ?_
    repeat walk_at "rd"
    refine w_tup3 fun a1 H1 s1 n1 e1 => ?_
    repeat walk_at "rd"
    refine w_fldI (s1 _ _ h2) T.l_Float T.n_sign (flds_s _ _ _) ?_
    repeat walk_at "rd"
    refine w_fldI (s1 _ _ h2) T.l_Float T.n_top (flds_t _ _ _) ?_
    repeat walk_at "rd"
    refine w_fldI (s1 _ _ h2) T.l_Float T.n_power (flds_p _ _ _) ?_
    repeat walk_at "rd"
    refine w_tup3 fun a2 H2 s2 n2 e2 => ?_
    exact w_eqD (fall_dp (s2 _ _ e1)) (fall_dp e2) (fall_shaped f) (fall_shaped g) (q H2 (s1.trans s2))
theorem u_eqF {a b : Addr} {f : Fl} {g : Bool → Bool} {H : Hp} {Q : VK} (ha : FlAt CF H a f) (hb : FlAt CF H b f) (q : ∀ H', Same H H' → Q (.bl (g true)) H') : rOwn CF g (spFEq CF) (.ref a) (.ref b) H Q := by
  obtain ⟨dx, h1⟩ := id ha
  obtain ⟨dy, h2⟩ := id hb
  exact w_own h1 h2 ⟨a, b, f, f, rfl, ha, hb, fun H' s => ⟨_, rfl, by rw [feq_self]; exact q H' s⟩⟩
end
end Nu

set_option Elab.async false
set_option linter.all false
set_option maxRecDepth 100000
set_option autoImplicit false
set_option maxHeartbeats 4000000
namespace Rd
theorem iA {c : Prop} [Decidable c] {A B : Prop} (h : A) (h2 : ¬ c → A → B) : if decide c = true then A else B := by
  by_cases k : c
  · rw [decide_eq_true k]; exact iT h
  · rw [decide_eq_false k]; exact iF (h2 k h)
theorem iAb {c : Bool} {A B : Prop} (h : A) (h2 : c = false → A → B) : if c = true then A else B := by
  cases c with
  | true => exact iT h
  | false => exact iF (h2 rfl h)
end Rd
namespace Nu
open PySem PySem.Spec PyProof.Rows L2 Rd
local macro_rules | `(tactic| walk_at "hp") => `(tactic| first | assumption | (refine same_get ?sm ?_; (case sm => assumption); walk_at "hp"))
local macro_rules | `(tactic| walk_at "rd") => `(tactic| first
  | (with_reducible show Ends.nx _ _ _; with_reducible refine w_nx ?_)
  | with_reducible refine w_rt ?_
  | (with_reducible show Ends.bk _ _ _; with_reducible refine w_bk ?_)
  | (with_reducible show Ends.ct _ _ _; with_reducible refine w_ct ?_)
  | with_reducible refine w_seq ?_
  | with_reducible refine w_next ?_
  | with_reducible refine w_ret ?_
  | with_reducible refine w_ifS ?_
  | with_reducible refine w_asg ?_
  | with_reducible refine w_name ?_
  | with_reducible refine w_par ?_
  | with_reducible refine w_parI ?_
  | with_reducible refine w_ii ?_
  | with_reducible refine w_i1 ?_
  | with_reducible refine w_drop ?_
  | with_reducible refine w_sFld ?_
  | ((with_reducible refine' w_var ?rdh ?_); (case rdh => exact rfl))
  | with_reducible refine w_c ?_
  | with_reducible refine w_op ?_
  | with_reducible refine w_un ?_
  | with_reducible refine w_I0 ?_
  | with_reducible refine w_U ?_
  | with_reducible refine w_bits ?_
  | with_reducible refine w_bitsI ?_
  | with_reducible refine w_tup ?_
  | with_reducible refine w_lst ?_
  | with_reducible refine w_nil ?_
  | with_reducible refine w_cons ?_
  | with_reducible refine w_fld ?_
  | with_reducible refine w_call ?_
  | with_reducible refine w_make ?_
  | with_reducible refine w_gsub ?_
  | with_reducible refine w_int1 ?_
  | with_reducible refine w_intB ?_
  | with_reducible refine w_for ?_
  | with_reducible refine w_rng1 ?_
  | with_reducible refine w_iList ?_
  | with_reducible refine w_iTup ?_
  | with_reducible refine w_makeD ?_
  | with_reducible refine w_nn ?_
  | with_reducible refine w_subB ?_
  | with_reducible refine w_meth ?_
  | with_reducible refine w_cb ?_
  | with_reducible refine w_test ?_
  | with_reducible refine w_B ?_
  | with_reducible refine w_bl ?_
  | with_reducible refine w_andV ?_
  | with_reducible refine w_orV ?_
  | with_reducible refine w_notV ?_
  | with_reducible refine w_and ?_
  | with_reducible refine w_or ?_
  | with_reducible refine w_not ?_
  | with_reducible refine w_if ?_
  | with_reducible refine w_gnil ?_
  | with_reducible refine w_gcons ?_
  | with_reducible refine iT ?_
  | with_reducible refine iF ?_
  | with_reducible refine w_eqI ?_
  | with_reducible refine w_neI ?_
  | with_reducible refine w_eqS ?_
  | with_reducible refine w_eqIS ?_
  | with_reducible refine w_eqSI ?_)

def isNan : Fl → Bool
  | .nan => true
  | _ => false
def isInf : Fl → Bool
  | .inf _ => true
  | _ => false
def isZero : Fl → Bool
  | .fin _ t _ => decide (t = 0)
  | _ => false
theorem Fl.flat (f : Fl) : flatV f.t = true := by cases f <;> rfl
theorem nan_in1 (f : Fl) : eqV f.t (.str "nan") = isNan f := by
  cases f with
  | fin s t p => rfl
  | inf s => show eqV (.str "inf") (.str "nan") = false; decide +kernel
  | nan => decide +kernel
theorem zero_in1 (f : Fl) : eqV f.t (.int 0) = isZero f := by
  cases f with
  | fin s t p => rfl
  | inf s => rfl
  | nan => rfl
theorem not_nan {f : Fl} (h : isNan f = false) : f ≠ .nan := fun e => by
  rw [e] at h
  cases h
theorem nan_no {f : Fl} (h : f ≠ .nan) : isNan f = false := by cases f <;> first | rfl | exact absurd rfl h
theorem is_fin {f : Fl} (h1 : isNan f = false) (h2 : isInf f = false) : ∃ s t p, f = .fin s t p := by
  cases f with
  | fin s t p => exact ⟨s, t, p, rfl⟩
  | inf s => cases h2
  | nan => cases h1
theorem w_inf {f : Fl} {H : Hp} {Q : VK} (q : Q (.bl (isInf f)) H) : rEq f.t (.str "inf") H Q := by
  cases f with
  | fin s t p => exact w_eqIS q
  | inf s => refine w_eqS ?_; rw [decide_eq_true rfl]; exact q
  | nan => refine w_eqS ?_; rw [decide_eq_false (by decide +kernel)]; exact q
theorem w_nan {f : Fl} {H : Hp} {Q : VK} (q : Q (.bl (isNan f)) H) : rEq f.t (.str "nan") H Q := by
  cases f with
  | fin s t p => exact w_eqIS q
  | nan => refine w_eqS ?_; rw [decide_eq_true rfl]; exact q
  | inf s => refine w_eqS ?_; rw [decide_eq_false (by decide +kernel)]; exact q
theorem w_zero {f : Fl} {H : Hp} {Q : VK} (q : Q (.bl (isZero f)) H) : rEq f.t (.int 0) H Q := by
  cases f with
  | fin s t p => exact w_eqI q
  | inf s => exact w_eqSI q
  | nan => exact w_eqSI q
theorem s_pm {f : Fl} (h : f.ok) : f.s = 1 ∨ f.s = -1 := by
  cases f with
  | fin s t p => exact h.1
  | inf s => exact h
  | nan => exact .inl rfl
theorem pm_mul {a b : Int} (h1 : a = 1 ∨ a = -1) (h2 : b = 1 ∨ b = -1) : a * b = 1 ∨ a * b = -1 := by
  rcases h1 with rfl | rfl <;> rcases h2 with rfl | rfl <;> decide
/-! ### what is reckoned -/
def absI (n : Int) : Int := if n < 0 then -n else n
def mulM (f g : Fl) : Fl := if (isNan f || isNan g) = true then .nan else if (isInf f || isInf g) = true then (if (isZero f || isZero g) = true then .nan else .inf (f.s * g.s)) else
  match f, g with
  | .fin s t p, .fin r u q => nearM (s * r) (absI (ratT s t p * ratT r u q)) (ratB p * ratB q)
  | _, _ => .nan
def divM (f g : Fl) : Fl := if (isNan f || isNan g) = true then .nan else if isInf f = true then (if isInf g = true then .nan else .inf (f.s * g.s)) else if isInf g = true then .fin (f.s * g.s) 0 0 else
  if isZero g = true then (if isZero f = true then .nan else .inf (f.s * g.s)) else
  match f, g with
  | .fin s t p, .fin r u q => nearM (s * r) (absI (ratT s t p * ratB q)) (absI (ratB p * ratT r u q))
  | _, _ => .nan
def negM : Fl → Fl
  | .nan => .nan
  | .inf s => .inf (0 - s)
  | .fin s t p => .fin (0 - s) t p
theorem neg_pm {s : Int} (h : s = 1 ∨ s = -1) : 0 - s = 1 ∨ 0 - s = -1 := by omega
theorem negM_ok {f : Fl} (h : f.ok) : (negM f).ok := by
  cases f with
  | nan => exact trivial
  | inf s => exact neg_pm h
  | fin s t p => exact ⟨neg_pm h.1, h.2⟩
theorem red_odd {t p : Int} (h0 : 0 ≤ t) (h : t % 2 = 1) : red t p = (t, p) := by
  obtain ⟨k, m, hm, e, r⟩ := red_spec (t := t) (by omega) p
  have k0 : k = 0 := by
    rcases Nat.eq_zero_or_pos k with z | z
    · exact z
    · obtain ⟨j, rfl⟩ : ∃ j, k = j + 1 := ⟨k - 1, by omega⟩
      rw [Int.pow_succ, Int.mul_assoc, Int.mul_left_comm] at e
      omega
  subst k0
  rw [r]
  simp at e ⊢
  omega
theorem red_ok {s t p : Int} (h : (Fl.fin s t p).ok) : red t p = (t, p) ∧ fitsB t p = true := by
  obtain ⟨_, t0, t1, hz, hn⟩ := h
  by_cases z : t = 0
  · subst z
    rw [hz rfl, red_zero]
    exact ⟨rfl, by decide⟩
  · obtain ⟨a, b, c⟩ := hn z
    refine ⟨red_odd t0 c, ?_⟩
    unfold fitsB
    rw [decide_eq_true t1, decide_eq_true a, decide_eq_true b]
    rfl
theorem negM_arg {f : Fl} (h : f.ok) (hn : f ≠ .nan) : Arg (0 - f.s) f.t f.p (negM f) := by
  cases f with
  | nan => exact absurd rfl hn
  | inf s => exact .inr (.inl ⟨rfl, rfl, neg_pm h, rfl⟩)
  | fin s t p =>
    obtain ⟨r, ft⟩ := red_ok h
    refine .inl ⟨t, rfl, h.2.1, neg_pm h.1, ?_, ?_⟩
    · show fitsB (red t p).1 (red t p).2 = true
      rw [r]; exact ft
    · show Fl.fin (0 - s) t p = .fin (0 - s) (red t p).1 (red t p).2
      rw [r]
theorem absI_nn (n : Int) : 0 ≤ absI n := abs_nn n
theorem absI_bits (n : Int) : bits (absI n) = bits n := bits_abs n
theorem ratT_ne {s t p : Int} (h : (Fl.fin s t p).ok) (ht : t ≠ 0) : ratT s t p ≠ 0 := by
  have h1 := h.1
  unfold ratT
  intro e
  split at e
  · rcases Int.mul_eq_zero.mp e with c | c <;> omega
  · rcases Int.mul_eq_zero.mp e with c | c
    · omega
    · rcases Int.mul_eq_zero.mp c with c | c
      · exact ht c
      · have := pow_pos2 p.toNat
        omega
theorem mulM_ok {f g : Fl} (hf : f.ok) (hg : g.ok) : (mulM f g).ok := by
  have pm := pm_mul (s_pm hf) (s_pm hg)
  unfold mulM
  split
  · exact trivial
  · split
    · split
      · exact trivial
      · exact pm
    · split
      · exact nearM_ok pm (absI_nn _) (Int.mul_pos (ratB_pos _) (ratB_pos _))
      · exact trivial
theorem div_pos {s t p r u q : Int} (hg : (Fl.fin r u q).ok) (hz : isZero (.fin r u q) = false) : 0 < absI (ratB p * ratT r u q) := by
  have h := absI_nn (ratB p * ratT r u q)
  have h2 : ratB p * ratT r u q ≠ 0 := fun e => by
    rcases Int.mul_eq_zero.mp e with c | c
    · have := ratB_pos p; omega
    · exact ratT_ne hg (of_decide_eq_false hz) c
  have : absI (ratB p * ratT r u q) ≠ 0 := by
    unfold absI
    split <;> omega
  omega
theorem divM_ok {f g : Fl} (hf : f.ok) (hg : g.ok) : (divM f g).ok := by
  have pm := pm_mul (s_pm hf) (s_pm hg)
  unfold divM
  split
  · exact trivial
  split
  · split
    · exact trivial
    · exact pm
  split
  · exact ⟨pm, by decide, by decide, fun _ => rfl, fun h => absurd rfl h⟩
  split
  · split
    · exact trivial
    · exact pm
  · rename_i z
    split
    · exact nearM_ok pm (absI_nn _) (div_pos (s := 0) (t := 0) hg (Bool.eq_false_iff.mpr z))
    · exact trivial
section
variable {P : Program} {w : World} {K : PySem.W.Frag} {mg : Str → Option Value} {base : Heap} {CF : Addr}
theorem u_nan {H : Hp} {Q : VK} {E : XK} (q : NewF CF .nan H Q) : spNan CF ([] ++ []) H Q E := ⟨rfl, q⟩
theorem u_inf {s : Int} {H : Hp} {Q : VK} {E : XK} (hs : s = 1 ∨ s = -1) (q : NewF CF (.inf s) H Q) : spInf CF ([V.int s] ++ []) H Q E := ⟨s, rfl, hs, q⟩
/-! ### products and quotients -/
def sp2 (CF : Addr) (m : Fl → Fl → Fl) : Sp := fun vs H Q _ => ∃ a b f g, vs = [.ref a, .ref b] ∧ FlAt CF H a f ∧ FlAt CF H b g ∧ f.ok ∧ g.ok ∧ f ≠ .nan ∧ g ≠ .nan ∧ ∀ x H', Same H H' → FlAt CF H' x (m f g) → Q (.ref x) H'
theorem sc_multiplied : FnScope ["one", "other", "sign", "first", "second"] ["one", "other"] (defScope s_multiplied) := ⟨rfl, rfl, rfl, by decide +kernel, rfl, by decide +kernel, by decide +kernel⟩
theorem ok_multiplied (T : AllN K mg CF) (k_nan : Kn P w K mg base CX0 4 "nan" [] (spNan CF)) (k_infinity : Kn P w K mg base CX0 4 "infinity" ["sign"] (spInf CF)) (k_Float_ratio : KnM P w K mg base CX0 1 CF "ratio" ["self"] (spRatio CF))
    (k_nearest : Kn P w K mg base CX0 5 "nearest" ["sign", "top", "bottom"] (spNear CF)) : Kn P w K mg base CX0 6 "multiplied" ["one", "other"] (sp2 CF mulM) := by
  refine T.x_multiplied.kn fun f fd F => ?_
  refine F.ok sc_multiplied (fun vs H Q E h => ?_) (fun cdv A outer s H vs Q E hr h => ?_)
  · obtain ⟨a, b, f, g, rfl, _⟩ := h
    rfl
  · obtain ⟨a, b, f, g, rfl, hf, hg, okf, okg, nf, ng, q⟩ := h
    refine ⟨_, (pss_cons (ps_set (i := 2) sc_multiplied.nd rfl (Or.inl rfl) (pe_op op_mulX (pe_fld (pv 0) rfl) (pe_fld (pv 1) rfl)))
      (pss_cons (ps_if (PW.pt (pw_or (pt_cmpR op_eq (pe_fld (pv 0) rfl) pe_str (nomark _)) (pw_or1 (pt_cmpR op_eq (pe_fld (pv 1) rfl) pe_str (nomark _))))) (pss_one (ps_ret (pe_ifExp (pt_cmpR op_in_seq pe_int (pe_tup (pa_cons (pe_fld (pv 0) rfl) (pa_cons (pe_fld (pv 1) rfl) pa_nil))) rfl) (pk0 k_nan hr) (pk k_infinity hr (pa_cons (pv 2) pa_nil))))) pss_nil)
      (pss_cons (ps_par (by rfl) sc_multiplied.nd (i := 3) (j := 4) rfl rfl (by decide) rfl rfl (pa_cons (pkM0 k_Float_ratio T.l_Float hr (pv 0) rfl) (pa_cons (pkM0 k_Float_ratio T.l_Float hr (pv 1) rfl) pa_nil)) (by rfl))
      (pss_one (ps_ret (pk k_nearest hr (pa_cons (pv 2) (pa_cons (pe_callB call_abs (by rfl) T.b_abs boot_abs (pa_cons (pe_op op_mulX (pe_ix ix_tup (pv 3) pe_int (fun _ _ => rfl)) (pe_ix ix_tup (pv 4) pe_int (fun _ _ => rfl))) pa_nil)) (pa_cons (pe_op op_mulX (pe_ix ix_tup (pv 3) pe_int (fun _ _ => rfl)) (pe_ix ix_tup (pv 4) pe_int (fun _ _ => rfl))) pa_nil))))))))), ?_⟩
    obtain ⟨dx, h1⟩ := id hf
    obtain ⟨dy, h2⟩ := id hg
    have pf := (s_pm okf)
    have pg := (s_pm okg)
    have hnn : (isNan f || isNan g) = false := by rw [nan_no nf, nan_no ng]; rfl
    repeat walk_at "rd"
    refine w_fldI h1 T.l_Float T.n_sign (flds_s _ _ _) ?_
    repeat walk_at "rd"
    refine w_fldI h2 T.l_Float T.n_sign (flds_s _ _ _) ?_
    refine w_I (cmulS (i := f.s) (j := g.s) (by omega) (by omega)) ?_
    repeat walk_at "rd"
    refine w_fldI h1 T.l_Float T.n_top (flds_t _ _ _) ?_
    repeat walk_at "rd"
    refine w_inf ?_
    repeat walk_at "rd"
    have far : (isInf f || isInf g) = true → ∀ (Q1 : VK), (∀ x H', Same H H' → FlAt CF H' x (mulM f g) → Q1 (.ref x) H') → tIf (tTest (tOp (rIn K false) (tC (.int 0)) (tTup (tCons (tFld K (tVar 0) "top") (tCons (tFld K (tVar 1) "top") tNil))))) (tCall (spNan CF) [] E0 tNil) (tCall (spInf CF) [] E0 (tCons (tVar 2) tNil)) [some (.ref a), some (.ref b), some (.int (f.s * g.s)), none, none] H Q1 := by
      intro hi Q1 q1
      repeat walk_at "rd"
      refine w_fldI h1 T.l_Float T.n_top (flds_t _ _ _) ?_
      repeat walk_at "rd"
      refine w_fldI h2 T.l_Float T.n_top (flds_t _ _ _) ?_
      repeat walk_at "rd"
      refine w_tup2 fun a1 H1 s1 n1 e1 => ?_
      refine w_in e1 rfl (by simp [Fl.flat]) ?_
      have ein : inV (.int 0) [f.t, g.t] = (isZero f || isZero g) := by
        unfold inV
        simp only [List.any_cons, List.any_nil, Bool.or_false, zero_in1]
      rw [ein]
      unfold mulM at q1
      rw [if_neg (by rw [hnn]; exact Bool.false_ne_true), if_pos hi] at q1
      repeat walk_at "rd"
      refine iB (fun z => ?_) (fun z => ?_)
      · rw [if_pos z] at q1
        repeat walk_at "rd"
        exact u_nan fun x H' s2 n2 k2 => q1 x H' (s1.trans s2) k2
      · rw [if_neg (by rw [z]; exact Bool.false_ne_true)] at q1
        repeat walk_at "rd"
        exact u_inf (pm_mul pf pg) fun x H' s2 n2 k2 => q1 x H' (s1.trans s2) k2
    refine iB (fun z => ?_) (fun z => ?_)
    · refine iT ?_
      exact far (by rw [z]; rfl) _ q
    · repeat walk_at "rd"
      refine w_fldI h2 T.l_Float T.n_top (flds_t _ _ _) ?_
      repeat walk_at "rd"
      refine w_inf ?_
      repeat walk_at "rd"
      refine iB (fun z2 => ?_) (fun z2 => ?_)
      · exact far (by rw [z2, Bool.or_true]) _ q
      · clear far
        obtain ⟨s, t, p, rfl⟩ := is_fin (nan_no nf) z
        obtain ⟨r, u, p2, rfl⟩ := is_fin (nan_no ng) z2
        repeat walk_at "rd"
        refine w_methI h1 (lk_rat _ _ _) ?_
        repeat walk_at "rd"
        refine ⟨a, s, t, p, rfl, hf, okf, fun q1 H1 s1 n1 e1 => ?_⟩
        repeat walk_at "rd"
        refine w_methI (s1 _ _ h2) (lk_rat _ _ _) ?_
        repeat walk_at "rd"
        refine ⟨b, r, u, p2, rfl, hg.same s1, okg, fun q2 H2 s2 n2 e2 => ?_⟩
        have e1 := s2 _ _ e1
        have T1 := ratT_b okf
        have T2 := ratT_b okg
        have B1 := ratB_b okf
        have B2 := ratB_b okg
        repeat walk_at "rd"
        refine w_ixT e1 (v := .int (ratT s t p)) rfl ?_
        repeat walk_at "rd"
        refine w_ixT e2 (v := .int (ratT r u p2)) rfl ?_
        refine w_I (cmulx (i := ratT s t p) (j := ratT r u p2) (by omega) (by omega)) ?_
        repeat walk_at "rd"
        refine w_ixT e1 (v := .int (ratB p)) rfl ?_
        repeat walk_at "rd"
        refine w_ixT e2 (v := .int (ratB p2)) rfl ?_
        refine w_I (cmulx (i := ratB p) (j := ratB p2) (by omega) (by omega)) ?_
        repeat walk_at "rd"
        have b1 := bits_mul (ratT s t p) (ratT r u p2)
        have b2 := bits_mul (ratB p) (ratB p2)
        exact ⟨_, _, _, rfl, pm_mul pf pg, absI_nn _, Int.mul_pos (ratB_pos _) (ratB_pos _), by rw [bits_abs]; omega, by omega, fun x H' s3 n3 h3 => q x H' (s1.trans (s2.trans s3)) h3⟩
theorem sc_divided : FnScope ["one", "other", "sign", "first", "second"] ["one", "other"] (defScope s_divided) := ⟨rfl, rfl, rfl, by decide +kernel, rfl, by decide +kernel, by decide +kernel⟩
theorem ok_divided (T : AllN K mg CF) (k_nan : Kn P w K mg base CX0 4 "nan" [] (spNan CF)) (k_infinity : Kn P w K mg base CX0 4 "infinity" ["sign"] (spInf CF)) (k_Float_ratio : KnM P w K mg base CX0 1 CF "ratio" ["self"] (spRatio CF)) (k_Float_init : KnC P w K mg base CX0 2 "Float" CF ["self", "sign", "top", "power"] (spInit CF))
    (k_nearest : Kn P w K mg base CX0 5 "nearest" ["sign", "top", "bottom"] (spNear CF)) : Kn P w K mg base CX0 6 "divided" ["one", "other"] (sp2 CF divM) := by
  refine T.x_divided.kn fun f fd F => ?_
  refine F.ok sc_divided (fun vs H Q E h => ?_) (fun cdv A outer s H vs Q E hr h => ?_)
  · obtain ⟨a, b, f, g, rfl, _⟩ := h
    rfl
  · obtain ⟨a, b, f, g, rfl, hf, hg, okf, okg, nf, ng, q⟩ := h
    refine ⟨_, (pss_cons (ps_set (i := 2) sc_divided.nd rfl (Or.inl rfl) (pe_op op_mulX (pe_fld (pv 0) rfl) (pe_fld (pv 1) rfl)))
      (pss_cons (ps_if (pt_cmpR op_eq (pe_fld (pv 0) rfl) pe_str (nomark _)) (pss_one (ps_ret (pe_ifExp (pt_cmpR op_eq (pe_fld (pv 1) rfl) pe_str (nomark _)) (pk0 k_nan hr) (pk k_infinity hr (pa_cons (pv 2) pa_nil))))) pss_nil)
      (pss_cons (ps_if (pt_cmpR op_eq (pe_fld (pv 1) rfl) pe_str (nomark _)) (pss_one (ps_ret (pkC k_Float_init hr (pa_cons (pv 2) (pa_cons pe_int (pa_cons pe_int pa_nil)))))) pss_nil)
      (pss_cons (ps_if (pt_cmpR op_eq (pe_fld (pv 1) rfl) pe_int (nomark _)) (pss_one (ps_ret (pe_ifExp (pt_cmpR op_eq (pe_fld (pv 0) rfl) pe_int (nomark _)) (pk0 k_nan hr) (pk k_infinity hr (pa_cons (pv 2) pa_nil))))) pss_nil)
      (pss_cons (ps_par (by rfl) sc_divided.nd (i := 3) (j := 4) rfl rfl (by decide) rfl rfl (pa_cons (pkM0 k_Float_ratio T.l_Float hr (pv 0) rfl) (pa_cons (pkM0 k_Float_ratio T.l_Float hr (pv 1) rfl) pa_nil)) (by rfl))
      (pss_one (ps_ret (pk k_nearest hr (pa_cons (pv 2) (pa_cons (pe_callB call_abs (by rfl) T.b_abs boot_abs (pa_cons (pe_op op_mulX (pe_ix ix_tup (pv 3) pe_int (fun _ _ => rfl)) (pe_ix ix_tup (pv 4) pe_int (fun _ _ => rfl))) pa_nil)) (pa_cons (pe_callB call_abs (by rfl) T.b_abs boot_abs (pa_cons (pe_op op_mulX (pe_ix ix_tup (pv 3) pe_int (fun _ _ => rfl)) (pe_ix ix_tup (pv 4) pe_int (fun _ _ => rfl))) pa_nil)) pa_nil))))))))))), ?_⟩
    obtain ⟨dx, h1⟩ := id hf
    obtain ⟨dy, h2⟩ := id hg
    have pf := (s_pm okf)
    have pg := (s_pm okg)
    have hnn : (isNan f || isNan g) = false := by rw [nan_no nf, nan_no ng]; rfl
    unfold divM at q
    rw [if_neg (by rw [hnn]; exact Bool.false_ne_true)] at q
    repeat walk_at "rd"
    refine w_fldI h1 T.l_Float T.n_sign (flds_s _ _ _) ?_
    repeat walk_at "rd"
    refine w_fldI h2 T.l_Float T.n_sign (flds_s _ _ _) ?_
    refine w_I (cmulS (i := f.s) (j := g.s) (by omega) (by omega)) ?_
    repeat walk_at "rd"
    refine w_fldI h1 T.l_Float T.n_top (flds_t _ _ _) ?_
    repeat walk_at "rd"
    refine w_inf ?_
    repeat walk_at "rd"
    refine iB (fun z => ?_) (fun z => ?_)
    · rw [if_pos z] at q
      repeat walk_at "rd"
      refine w_fldI h2 T.l_Float T.n_top (flds_t _ _ _) ?_
      repeat walk_at "rd"
      refine w_inf ?_
      repeat walk_at "rd"
      refine iB (fun z2 => ?_) (fun z2 => ?_)
      · rw [if_pos z2] at q
        repeat walk_at "rd"
        exact u_nan fun x H' s2 n2 k2 => q x H' s2 k2
      · rw [if_neg (by rw [z2]; exact Bool.false_ne_true)] at q
        repeat walk_at "rd"
        exact u_inf (pm_mul pf pg) fun x H' s2 n2 k2 => q x H' s2 k2
    · rw [if_neg (by rw [z]; exact Bool.false_ne_true)] at q
      repeat walk_at "rd"
      refine w_fldI h2 T.l_Float T.n_top (flds_t _ _ _) ?_
      repeat walk_at "rd"
      refine w_inf ?_
      repeat walk_at "rd"
      refine iB (fun z2 => ?_) (fun z2 => ?_)
      · rw [if_pos z2] at q
        repeat walk_at "rd"
        refine u_Float (.inl ⟨0, rfl, by decide, pm_mul pf pg, by rw [red_zero]; decide, rfl⟩) fun x H' s1 n1 k1 => ?_
        rw [red_zero] at k1
        exact q x H' s1 k1
      · rw [if_neg (by rw [z2]; exact Bool.false_ne_true)] at q
        repeat walk_at "rd"
        refine w_fldI h2 T.l_Float T.n_top (flds_t _ _ _) ?_
        repeat walk_at "rd"
        refine w_zero ?_
        repeat walk_at "rd"
        refine iB (fun z3 => ?_) (fun z3 => ?_)
        · rw [if_pos z3] at q
          repeat walk_at "rd"
          refine w_fldI h1 T.l_Float T.n_top (flds_t _ _ _) ?_
          repeat walk_at "rd"
          refine w_zero ?_
          repeat walk_at "rd"
          refine iB (fun z4 => ?_) (fun z4 => ?_)
          · rw [if_pos z4] at q
            repeat walk_at "rd"
            exact u_nan fun x H' s2 n2 k2 => q x H' s2 k2
          · rw [if_neg (by rw [z4]; exact Bool.false_ne_true)] at q
            repeat walk_at "rd"
            exact u_inf (pm_mul pf pg) fun x H' s2 n2 k2 => q x H' s2 k2
        · rw [if_neg (by rw [z3]; exact Bool.false_ne_true)] at q
          obtain ⟨s, t, p, rfl⟩ := is_fin (nan_no nf) z
          obtain ⟨r, u, p2, rfl⟩ := is_fin (nan_no ng) z2
          repeat walk_at "rd"
          refine w_methI h1 (lk_rat _ _ _) ?_
          repeat walk_at "rd"
          refine ⟨a, s, t, p, rfl, hf, okf, fun q1 H1 s1 n1 e1 => ?_⟩
          repeat walk_at "rd"
          refine w_methI (s1 _ _ h2) (lk_rat _ _ _) ?_
          repeat walk_at "rd"
          refine ⟨b, r, u, p2, rfl, hg.same s1, okg, fun q2 H2 s2 n2 e2 => ?_⟩
          have e1 := s2 _ _ e1
          have T1 := ratT_b okf
          have T2 := ratT_b okg
          have B1 := ratB_b okf
          have B2 := ratB_b okg
          repeat walk_at "rd"
          refine w_ixT e1 (v := .int (ratT s t p)) rfl ?_
          repeat walk_at "rd"
          refine w_ixT e2 (v := .int (ratB p2)) rfl ?_
          refine w_I (cmulx (i := ratT s t p) (j := ratB p2) (by omega) (by omega)) ?_
          repeat walk_at "rd"
          refine w_ixT e1 (v := .int (ratB p)) rfl ?_
          repeat walk_at "rd"
          refine w_ixT e2 (v := .int (ratT r u p2)) rfl ?_
          refine w_I (cmulx (i := ratB p) (j := ratT r u p2) (by omega) (by omega)) ?_
          repeat walk_at "rd"
          have b1 := bits_mul (ratT s t p) (ratB p2)
          have b2 := bits_mul (ratB p) (ratT r u p2)
          exact ⟨_, _, _, rfl, pm_mul pf pg, absI_nn _, div_pos (s := 0) (t := 0) okg z3, by rw [bits_abs]; omega, by rw [bits_abs]; omega, fun x H' s3 n3 h3 => q x H' (s1.trans (s2.trans s3)) h3⟩
end
end Nu

set_option Elab.async false
set_option linter.all false
set_option maxRecDepth 100000
set_option autoImplicit false
set_option maxHeartbeats 4000000
namespace Nu
open PySem PySem.Spec PyProof.Rows L2 Rd
local macro_rules | `(tactic| walk_at "hp") => `(tactic| first | assumption | (refine same_get ?sm ?_; (case sm => assumption); walk_at "hp"))
local macro_rules | `(tactic| walk_at "rd") => `(tactic| first
  | (with_reducible show Ends.nx _ _ _; with_reducible refine w_nx ?_)
  | with_reducible refine w_rt ?_
  | (with_reducible show Ends.bk _ _ _; with_reducible refine w_bk ?_)
  | (with_reducible show Ends.ct _ _ _; with_reducible refine w_ct ?_)
  | with_reducible refine w_seq ?_
  | with_reducible refine w_next ?_
  | with_reducible refine w_ret ?_
  | with_reducible refine w_ifS ?_
  | with_reducible refine w_asg ?_
  | with_reducible refine w_name ?_
  | with_reducible refine w_par ?_
  | with_reducible refine w_parI ?_
  | with_reducible refine w_ii ?_
  | with_reducible refine w_i1 ?_
  | with_reducible refine w_drop ?_
  | with_reducible refine w_sFld ?_
  | ((with_reducible refine' w_var ?rdh ?_); (case rdh => exact rfl))
  | with_reducible refine w_c ?_
  | with_reducible refine w_op ?_
  | with_reducible refine w_un ?_
  | with_reducible refine w_I0 ?_
  | with_reducible refine w_U ?_
  | with_reducible refine w_bits ?_
  | with_reducible refine w_bitsI ?_
  | with_reducible refine w_tup ?_
  | with_reducible refine w_lst ?_
  | with_reducible refine w_nil ?_
  | with_reducible refine w_cons ?_
  | with_reducible refine w_fld ?_
  | with_reducible refine w_call ?_
  | with_reducible refine w_make ?_
  | with_reducible refine w_gsub ?_
  | with_reducible refine w_int1 ?_
  | with_reducible refine w_intB ?_
  | with_reducible refine w_for ?_
  | with_reducible refine w_rng1 ?_
  | with_reducible refine w_iList ?_
  | with_reducible refine w_iTup ?_
  | with_reducible refine w_makeD ?_
  | with_reducible refine w_nn ?_
  | with_reducible refine w_subB ?_
  | with_reducible refine w_meth ?_
  | with_reducible refine w_cb ?_
  | with_reducible refine w_test ?_
  | with_reducible refine w_B ?_
  | with_reducible refine w_bl ?_
  | with_reducible refine w_andV ?_
  | with_reducible refine w_orV ?_
  | with_reducible refine w_notV ?_
  | with_reducible refine w_and ?_
  | with_reducible refine w_or ?_
  | with_reducible refine w_not ?_
  | with_reducible refine w_if ?_
  | with_reducible refine w_gnil ?_
  | with_reducible refine w_gcons ?_
  | with_reducible refine iT ?_
  | with_reducible refine iF ?_
  | with_reducible refine w_eqI ?_
  | with_reducible refine w_neI ?_
  | with_reducible refine w_eqS ?_
  | with_reducible refine w_eqIS ?_
  | with_reducible refine w_eqSI ?_)

/-! ### what an operator makes of two floats -/
def ariM (w : Str) (f g : Fl) : Fl := if (isNan f || isNan g) = true then .nan else if w = "add" then addM f g else if w = "sub" then addM f (negM g) else if w = "mul" then mulM f g else divM f g
def Four (w : Str) : Prop := w = "add" ∨ w = "sub" ∨ w = "mul" ∨ w = "div"
theorem four_in {w : Str} (h : Four w) : inV (.str w) [.str "band", .str "bor", .str "bxor", .str "shl", .str "shr"] = false := by
  rcases h with rfl | rfl | rfl | rfl <;> decide +kernel
theorem negM_nan {f : Fl} (h : f ≠ .nan) : negM f ≠ .nan := by cases f <;> intro e <;> first | exact h rfl | cases e
theorem ariM_ok {w : Str} {f g : Fl} (hf : f.ok) (hg : g.ok) : (ariM w f g).ok := by
  unfold ariM
  split
  · exact trivial
  split
  · exact addM_ok hf hg
  split
  · exact addM_ok hf (negM_ok hg)
  split
  · exact mulM_ok hf hg
  · exact divM_ok hf hg
def toF : Nm → Fl
  | .int i => nearM (if i < 0 then -1 else 1) (if i < 0 then -i else i) 1
  | .fl f => f
def isFl : Nm → Bool
  | .int _ => false
  | .fl _ => true
section
variable {P : Program} {w : World} {K : PySem.W.Frag} {mg : Str → Option Value} {base : Heap} {CF : Addr}
def spBy (CF : Addr) : Sp := fun vs H Q _ => ∃ wd a b f g, vs = [.str wd, .ref a, .ref b] ∧ Four wd ∧ FlAt CF H a f ∧ FlAt CF H b g ∧ f.ok ∧ g.ok ∧ ∀ x H', Same H H' → FlAt CF H' x (ariM wd f g) → Q (.ref x) H'
theorem sc_by_floats : FnScope ["word", "one", "other", "found"] ["word", "one", "other"] (defScope s_by_floats) := ⟨rfl, rfl, rfl, by decide +kernel, rfl, by decide +kernel, by decide +kernel⟩
theorem ok_by_floats (T : AllN K mg CF) (k_nan : Kn P w K mg base CX0 4 "nan" [] (spNan CF)) (k_added : Kn P w K mg base CX0 6 "added" ["one", "other"] (spAdded CF)) (k_multiplied : Kn P w K mg base CX0 6 "multiplied" ["one", "other"] (sp2 CF mulM)) (k_divided : Kn P w K mg base CX0 6 "divided" ["one", "other"] (sp2 CF divM))
    (k_Float_init : KnC P w K mg base CX0 2 "Float" CF ["self", "sign", "top", "power"] (spInit CF)) : Kn P w K mg base CX0 7 "by_floats" ["word", "one", "other"] (spBy CF) := by
  refine T.x_by_floats.kn fun f fd F => ?_
  refine F.ok sc_by_floats (fun vs H Q E h => ?_) (fun cdv A outer s H vs Q E hr h => ?_)
  · obtain ⟨wd, a, b, f, g, rfl, _⟩ := h
    rfl
  · obtain ⟨wd, a, b, f, g, rfl, h4, hf, hg, okf, okg, q⟩ := h
    refine ⟨_, (pss_cons (ps_if (pt_cmpR op_in_seq pe_str (pe_tup (pa_cons (pe_fld (pv 1) rfl) (pa_cons (pe_fld (pv 2) rfl) pa_nil))) rfl) (pss_one (ps_ret (pk0 k_nan hr))) pss_nil)
      (pss_cons (ps_if (pt_cmpR op_eq (pv 0) pe_str (nomark _)) (pss_one (ps_ret (pk k_added hr (pa_cons (pv 1) (pa_cons (pv 2) pa_nil))))) pss_nil)
      (pss_cons (ps_if (pt_cmpR op_eq (pv 0) pe_str (nomark _)) (pss_one (ps_ret (pk k_added hr (pa_cons (pv 1) (pa_cons (pkC k_Float_init hr (pa_cons (pe_op op_sub pe_int (pe_fld (pv 2) rfl)) (pa_cons (pe_fld (pv 2) rfl) (pa_cons (pe_fld (pv 2) rfl) pa_nil)))) pa_nil))))) pss_nil)
      (pss_cons (ps_if (pt_cmpR op_eq (pv 0) pe_str (nomark _)) (pss_one (ps_ret (pk k_multiplied hr (pa_cons (pv 1) (pa_cons (pv 2) pa_nil))))) pss_nil)
      (pss_cons (ps_if (pt_cmpR op_eq (pv 0) pe_str (nomark _)) (pss_one ps_never) pss_nil)
      (pss_cons (ps_set (i := 3) sc_by_floats.nd rfl (Or.inl rfl) (pk k_divided hr (pa_cons (pv 1) (pa_cons (pv 2) pa_nil))))
      (pss_one (ps_ret (pe_ifExp (pt_cmpR op_eq (pv 0) pe_str (nomark _)) pe_nev (pv 3)))))))))), ?_⟩
    obtain ⟨dx, h1⟩ := id hf
    obtain ⟨dy, h2⟩ := id hg
    repeat walk_at "rd"
    refine w_fldI h1 T.l_Float T.n_top (flds_t _ _ _) ?_
    repeat walk_at "rd"
    refine w_fldI h2 T.l_Float T.n_top (flds_t _ _ _) ?_
    repeat walk_at "rd"
    refine w_tup2 fun a1 H1 s1 n1 e1 => ?_
    refine w_in e1 rfl (by simp [Fl.flat]) ?_
    have ein : inV (.str "nan") [f.t, g.t] = (isNan f || isNan g) := by
      unfold inV
      simp only [List.any_cons, List.any_nil, Bool.or_false, nan_in1]
    rw [ein]
    unfold ariM at q
    repeat walk_at "rd"
    refine iB (fun z => ?_) (fun z => ?_)
    · rw [if_pos z] at q
      repeat walk_at "rd"
      exact u_nan fun x H' s2 n2 h2 => q x H' (s1.trans s2) h2
    · rw [if_neg (by rw [z]; exact Bool.false_ne_true)] at q
      rw [Bool.or_eq_false_iff] at z
      repeat walk_at "rd"
      refine iD (fun c => ?_) (fun c => ?_)
      · rw [if_pos c] at q
        repeat walk_at "rd"
        exact ⟨a, b, f, g, rfl, hf.same s1, hg.same s1, okf, okg, not_nan z.1, not_nan z.2, fun x H' s2 h2 => q x H' (s1.trans s2) h2⟩
      rw [if_neg c] at q
      repeat walk_at "rd"
      refine iD (fun c2 => ?_) (fun c2 => ?_)
      · rw [if_pos c2] at q
        repeat walk_at "rd"
        refine w_fldI (s1 _ _ h2) T.l_Float T.n_sign (flds_s _ _ _) ?_
        repeat walk_at "rd"
        refine w_fldI (s1 _ _ h2) T.l_Float T.n_top (flds_t _ _ _) ?_
        repeat walk_at "rd"
        refine w_fldI (s1 _ _ h2) T.l_Float T.n_power (flds_p _ _ _) ?_
        repeat walk_at "rd"
        refine u_Float (negM_arg okg (not_nan z.2)) fun x2 H2 s2 n2 k2 => ?_
        repeat walk_at "rd"
        exact ⟨a, x2, f, negM g, rfl, hf.same (s1.trans s2), k2, okf, negM_ok okg, not_nan z.1, negM_nan (not_nan z.2), fun x H' s3 h3 => q x H' (s1.trans (s2.trans s3)) h3⟩
      rw [if_neg c2] at q
      repeat walk_at "rd"
      refine iD (fun c3 => ?_) (fun c3 => ?_)
      · rw [if_pos c3] at q
        repeat walk_at "rd"
        exact ⟨a, b, f, g, rfl, hf.same s1, hg.same s1, okf, okg, not_nan z.1, not_nan z.2, fun x H' s2 h2 => q x H' (s1.trans s2) h2⟩
      rw [if_neg c3] at q
      have c4 : wd = "div" := by
        rcases h4 with h | h | h | h
        · exact absurd h c
        · exact absurd h c2
        · exact absurd h c3
        · exact h
      subst c4
      repeat walk_at "rd"
      refine iD (fun c4 => absurd c4 (by decide +kernel)) (fun _ => ?_)
      repeat walk_at "rd"
      refine ⟨a, b, f, g, rfl, hf.same s1, hg.same s1, okf, okg, not_nan z.1, not_nan z.2, fun x H' s2 h2 => ?_⟩
      repeat walk_at "rd"
      refine iD (fun c4 => absurd c4 (by decide +kernel)) (fun _ => ?_)
      repeat walk_at "rd"
      exact q x H' (s1.trans s2) h2
theorem u_by {wd : Str} {a b : Addr} {f g : Fl} {H : Hp} {Q : VK} {E : XK} (h4 : Four wd) (hf : FlAt CF H a f) (hg : FlAt CF H b g) (okf : f.ok) (okg : g.ok) (q : ∀ x H', Same H H' → FlAt CF H' x (ariM wd f g) → Q (.ref x) H') : spBy CF ([V.str wd, V.ref a, V.ref b] ++ []) H Q E :=
  ⟨wd, a, b, f, g, rfl, h4, hf, hg, okf, okg, q⟩
theorem u_toF {x : V} {n : Nm} {H : Hp} {Q : VK} {E : XK} (h : NmAt CF H x n) (q : ∀ a H', Same H H' → FlAt CF H' a (toF n) → (toF n).ok → Q (.ref a) H') : spToF K CF ([x] ++ []) H Q E := by
  cases n with
  | int i =>
    obtain ⟨rfl, hb⟩ := h
    exact .inr ⟨i, rfl, by omega, fun x H' s1 n1 h1 => q x H' s1 h1 (nearM_ok (sgn_pm i) (abs_nn i) (by decide))⟩
  | fl f =>
    obtain ⟨a, rfl, h, ok⟩ := h
    exact .inl ⟨a, f, rfl, h, q a H (Same.refl H) h ok⟩
/-- arith by floats -/
def spAri (CF : Addr) : Sp := fun vs H Q _ => ∃ wd x y n m, vs = [.str wd, x, y] ∧ Four wd ∧ (wd = "div" ∨ isFl n = true ∨ isFl m = true) ∧ NmAt CF H x n ∧ NmAt CF H y m ∧ ∀ a H', Same H H' → FlAt CF H' a (ariM wd (toF n) (toF m)) → Q (.ref a) H'
theorem sc_arith : FnScope ["word", "one", "other"] ["word", "one", "other"] (defScope s_arith) := ⟨rfl, rfl, rfl, by decide +kernel, rfl, by decide +kernel, by decide +kernel⟩
theorem ok_arith (T : AllN K mg CF) (k_by_floats : Kn P w K mg base CX0 7 "by_floats" ["word", "one", "other"] (spBy CF)) (k_to_float : Kn P w K mg base CX0 6 "to_float" ["number"] (spToF K CF)) : Kn P w K mg base CX0 8 "arith" ["word", "one", "other"] (spAri CF) := by
  refine T.x_arith.kn fun f fd F => ?_
  refine F.ok sc_arith (fun vs H Q E h => ?_) (fun cdv A outer s H vs Q E hr h => ?_)
  · obtain ⟨wd, x, y, n, m, rfl, _⟩ := h
    rfl
  · obtain ⟨wd, x, y, n, m, rfl, h4, hc, hx, hy, q⟩ := h
    refine ⟨_, (pss_cons (ps_if (pt_cmpR op_in_seq (pv 0) (pe_tup (pa_cons pe_str (pa_cons pe_str (pa_cons pe_str (pa_cons pe_str (pa_cons pe_str pa_nil)))))) rfl) (pss_one ps_never) pss_nil)
      (pss_cons (ps_if (PW.pt (pw_or (pt_cmpR op_eq (pv 0) pe_str (nomark _)) (pw_or (pt_val (pe_callB call_isi (by rfl) T.b_isinstance boot_isinstance (pa_cons (pv 1) (pa_cons (pg "Float" T.g_Float (rref _)) pa_nil)))) (pw_or1 (pt_val (pe_callB call_isi (by rfl) T.b_isinstance boot_isinstance (pa_cons (pv 2) (pa_cons (pg "Float" T.g_Float (rref _)) pa_nil)))))))) (pss_one (ps_ret (pk k_by_floats hr (pa_cons (pv 0) (pa_cons (pk k_to_float hr (pa_cons (pv 1) pa_nil)) (pa_cons (pk k_to_float hr (pa_cons (pv 2) pa_nil)) pa_nil)))))) pss_nil)
      (pss_cons ps_never
      (pss_cons ps_never
      (pss_one ps_never))))), ?_⟩
    repeat walk_at "rd"
    refine w_tupI (by show 5 ≤ 1000; decide) fun a1 H1 s1 n1 e1 => ?_
    refine w_in e1 rfl rfl ?_
    rw [four_in h4]
    have hx := hx.same s1
    have hy := hy.same s1
    have q : ∀ a H', Same H1 H' → FlAt CF H' a (ariM wd (toF n) (toF m)) → Q (.ref a) H' := fun a H' s => q a H' (s1.trans s)
    obtain ⟨p1, f1, ⟨t, ty, i1, i2, i3, i4⟩, _, e4⟩ := hx.says T.toAll
    obtain ⟨p2, f2, ⟨t2, ty2, j1, j2, j3, j4⟩, _, e5⟩ := hy.says T.toAll
    repeat walk_at "rd"
    refine iA ?_ (fun c hA => ?_)
    · repeat walk_at "rd"
      refine u_toF hx fun a2 H2 s2 k2 o2 => ?_
      repeat walk_at "rd"
      refine u_toF (hy.same s2) fun a3 H3 s3 k3 o3 => ?_
      repeat walk_at "rd"
      exact u_by h4 (k2.same s3) k3 o2 o3 fun x H' s4 k4 => q x H' (s2.trans (s3.trans s4)) k4
    · repeat walk_at "rd"
      refine w_isi (.own CF) ty i4 ?_
      repeat walk_at "rd"
      refine iAb hA (fun c2 hA => ?_)
      repeat walk_at "rd"
      refine w_isi (.own CF) ty2 j4 ?_
      repeat walk_at "rd"
      refine iAb hA (fun c3 hA => ?_)
      exfalso
      rcases hc with h | h | h
      · exact c h
      · cases n with
        | int i => cases h
        | fl f => rw [e4] at c2; cases c2
      · cases m with
        | int i => cases h
        | fl f => rw [e5] at c3; cases c3
end
end Nu

set_option Elab.async false
set_option linter.all false
set_option maxRecDepth 100000
set_option autoImplicit false
set_option maxHeartbeats 4000000
/-! texts of figures, as lists of signs -/
namespace Dg
open PySem PySem.NumText PyProof.Rows TL
/-- the figures of a number -/
def dg (m : Nat) : List Nat := (Nat.toDigits 10 m).map Char.toNat
theorem tl_num (m : Nat) : tl (Str.ofString (toString ((m : Nat) : Int))) = dg m := PySem.W.KIN.signs_num m
theorem dg_val (m : Nat) : digitsVal (dg m) = m := PySem.W.KIN.val_back m
theorem dg_all (m : Nat) : AllDigits (dg m) := by
  intro c hc
  obtain ⟨ch, hch, e⟩ := List.mem_map.mp hc
  have r := digit_range (Nat.isDigit_of_mem_toDigits (by decide) (by decide) hch)
  rw [← e]
  exact r
theorem digitsVal_cons (c : Nat) (cs : List Nat) : digitsVal (c :: cs) = (c - 48) * 10 ^ cs.length + digitsVal cs := by
  have go : ∀ (cs : List Nat) (a : Nat), cs.foldl (fun acc c => acc * 10 + (c - 48)) a = a * 10 ^ cs.length + digitsVal cs := by
    intro cs
    induction cs with
    | nil => intro a; simp [digitsVal]
    | cons d cs ih =>
      intro a
      rw [List.foldl_cons, ih, List.length_cons, Nat.pow_succ]
      have : digitsVal (d :: cs) = (0 * 10 + (d - 48)) * 10 ^ cs.length + digitsVal cs := by
        show cs.foldl _ (0 * 10 + (d - 48)) = _
        rw [ih]
      rw [this, Nat.add_mul, Nat.zero_mul, Nat.zero_add, Nat.mul_assoc, Nat.mul_comm 10]
      omega
  have := go cs (0 * 10 + (c - 48))
  rw [Nat.zero_mul, Nat.zero_add] at this
  exact (show digitsVal (c :: cs) = cs.foldl _ (0 * 10 + (c - 48)) from rfl).trans (by rw [Nat.zero_mul, Nat.zero_add]; exact this)
theorem val_lt {cs : List Nat} (h : AllDigits cs) : digitsVal cs < 10 ^ cs.length := by
  induction cs with
  | nil => decide
  | cons c cs ih =>
    rw [digitsVal_cons, List.length_cons, Nat.pow_succ]
    have h1 := ih h.tail
    have h2 := h.head
    have : (c - 48) * 10 ^ cs.length ≤ 9 * 10 ^ cs.length := Nat.mul_le_mul_right _ (by omega)
    omega
theorem val_ge {c : Nat} {cs : List Nat} (h : 49 ≤ c) : 10 ^ cs.length ≤ digitsVal (c :: cs) := by
  rw [digitsVal_cons]
  have : 1 * 10 ^ cs.length ≤ (c - 48) * 10 ^ cs.length := Nat.mul_le_mul_right _ (by omega)
  omega
theorem val_app (cs : List Nat) (k : Nat) : digitsVal (cs ++ List.replicate k 48) = digitsVal cs * 10 ^ k := by
  induction k with
  | zero => simp
  | succ k ih =>
    rw [List.replicate_succ', ← List.append_assoc, digitsVal_snoc, ih, Nat.pow_succ, Nat.mul_assoc]
    rfl
theorem dg_head {m : Nat} (h : 0 < m) : ∃ c r, dg m = c :: r ∧ 49 ≤ c := by
  have go : ∀ m : Nat, 0 < m → ∃ c r, dg m = c :: r ∧ 49 ≤ c := by
    intro m
    induction m using Nat.strongRecOn with
    | ind m ih =>
      intro h
      by_cases c : m < 10
      · refine ⟨48 + m, [], ?_, by omega⟩
        unfold dg
        rw [Nat.toDigits_of_lt_base c, digitChar_of _ c]
        have : ∀ d : Nat, d < 10 → (Char.ofNat (48 + d)).toNat = 48 + d := by decide
        show [(Char.ofNat (48 + m)).toNat] = _
        rw [this m c]
      · obtain ⟨d, r, e, hd⟩ := ih (m / 10) (by omega) (by omega)
        refine ⟨d, r ++ [(Nat.digitChar (m % 10)).toNat], ?_, hd⟩
        have e2 : dg m = dg (m / 10) ++ [(Nat.digitChar (m % 10)).toNat] := by
          unfold dg
          rw [Nat.toDigits_of_base_le (by decide) (by omega), List.map_append]
          rfl
        rw [e2, e]
        rfl
  exact go m h
theorem dg_len {m k : Nat} (h1 : 10 ^ k ≤ m) (h2 : m < 10 ^ (k + 1)) : (dg m).length = k + 1 := by
  obtain ⟨c, r, e, hc⟩ := dg_head (m := m) (by have := Nat.pow_pos (n := k) (show 0 < 10 by decide); omega)
  have a := val_lt (dg_all m)
  have b := val_ge (cs := r) hc
  rw [← e, dg_val] at b
  rw [dg_val] at a
  rw [e] at a ⊢
  rw [List.length_cons] at a ⊢
  have c1 : ¬ r.length + 1 ≤ k := fun z => by
    have := Nat.pow_le_pow_right (show 0 < 10 by decide) z
    omega
  have c2 : ¬ k + 1 ≤ r.length := fun z => by
    have := Nat.pow_le_pow_right (show 0 < 10 by decide) z
    omega
  omega
/-- from the length: between two powers of ten -/
theorem len_dg {m : Nat} (h : 0 < m) : ∃ k, (dg m).length = k + 1 ∧ 10 ^ k ≤ m ∧ m < 10 ^ (k + 1) := by
  obtain ⟨c, r, e, hc⟩ := dg_head h
  have a := val_lt (dg_all m)
  have b := val_ge (cs := r) hc
  rw [← e, dg_val] at b
  rw [dg_val] at a
  exact ⟨r.length, by rw [e]; rfl, b, by rw [e] at a; exact a⟩
/-! ### zeros at an end -/
/-- without the zeros at its end -/
def strip0 (cs : List Nat) : List Nat := (cs.reverse.dropWhile (· == 48)).reverse
theorem strip0_split (cs : List Nat) : ∃ k, cs = strip0 cs ++ List.replicate k 48 ∧ ∀ h : strip0 cs ≠ [], (strip0 cs).getLast h ≠ 48 := by
  unfold strip0
  have go : ∀ l : List Nat, ∃ k, l = List.replicate k 48 ++ l.dropWhile (· == 48) ∧ ∀ c r, l.dropWhile (· == 48) = c :: r → c ≠ 48 := by
    intro l
    induction l with
    | nil => exact ⟨0, rfl, fun c r e => by cases e⟩
    | cons a l ih =>
      by_cases c : a = 48
      · subst c
        obtain ⟨k, e, h⟩ := ih
        refine ⟨k + 1, ?_, ?_⟩
        · rw [List.dropWhile_cons, if_pos (by decide), List.replicate_succ, List.cons_append, ← e]
        · rw [List.dropWhile_cons, if_pos (by decide)]
          exact h
      · have hn : (a == 48) = false := by simpa using c
        refine ⟨0, ?_, ?_⟩
        · rw [List.dropWhile_cons, hn]
          rfl
        · rw [List.dropWhile_cons, hn]
          intro c' r e
          cases e
          exact c
  obtain ⟨k, e, h⟩ := go cs.reverse
  refine ⟨k, ?_, fun hn => ?_⟩
  · have := congrArg List.reverse e
    rw [List.reverse_reverse, List.reverse_append, List.reverse_replicate] at this
    exact this
  · generalize hl : cs.reverse.dropWhile (· == 48) = l at h hn ⊢
    cases l with
    | nil => exact absurd rfl hn
    | cons c r =>
      rw [List.getLast_reverse]
      exact h c r rfl
end Dg

set_option Elab.async false
set_option linter.all false
set_option maxRecDepth 100000
set_option autoImplicit false
set_option maxHeartbeats 4000000
/-! strip, slices, texts times numbers, as lists of signs -/
namespace Dg
open PySem PySem.NumText PyProof.Rows TL PySem.Builtin PySem.Builtin.Str
theorem tl_len (x : Str) : (tl x).length = x.length := by simp [tl, Str.length]
theorem str_ext {x y : Str} (h : tl x = tl y) : x = y := by
  cases x with
  | mk a =>
    cases y with
    | mk b => exact congrArg Str.mk (Array.ext' h)
theorem zero_has : (("0" : Str).cps.contains : Nat → Bool) = (· == 48) := by
  funext c
  rw [show ("0" : Str) = ⟨#[48]⟩ by decide +kernel]
  simp [Array.contains]
theorem drop_take (p : Nat → Bool) (l : List Nat) : (l.reverse.dropWhile p).reverse = l.take (l.length - (l.reverse.takeWhile p).length) := by
  have h : l.reverse.takeWhile p ++ l.reverse.dropWhile p = l.reverse := List.takeWhile_append_dropWhile
  have h2 := congrArg List.reverse h
  rw [List.reverse_append, List.reverse_reverse] at h2
  generalize l.reverse.takeWhile p = a at h2 ⊢
  generalize l.reverse.dropWhile p = b at h2 ⊢
  subst h2
  have e : (b.reverse ++ a.reverse).length - a.length = b.reverse.length := by
    rw [List.length_append, List.length_reverse, List.length_reverse]
    omega
  rw [e]
  exact List.take_left.symm
theorem rstrip0 (x : Str) : tl (Txt.rstripChars x "0") = strip0 (tl x) := by
  unfold Txt.rstripChars
  rw [stripBy_eq, zero_has]
  show (x.cps.extract 0 (x.length - ((x.cps.toList.drop 0).reverse.takeWhile (· == 48)).length)).toList = _
  unfold strip0
  rw [drop_take, tl_len]
  simp
theorem lstrip0 (x : Str) : tl (Txt.lstripChars x "0") = (tl x).dropWhile (· == 48) := by
  unfold Txt.lstripChars
  rw [stripBy_eq, zero_has]
  show (x.cps.extract (x.cps.toList.takeWhile (· == 48)).length x.length).toList = _
  rw [Array.toList_extract]
  have h : (tl x).takeWhile (· == 48) ++ (tl x).dropWhile (· == 48) = tl x := List.takeWhile_append_dropWhile
  have hl : x.length = (tl x).length := (tl_len x).symm
  show List.take (x.length - ((tl x).takeWhile (· == 48)).length) (List.drop ((tl x).takeWhile (· == 48)).length (tl x)) = _
  rw [hl]
  generalize (tl x).takeWhile (· == 48) = a at h ⊢
  generalize (tl x).dropWhile (· == 48) = b at h ⊢
  rw [← h, List.drop_left, List.length_append, Nat.add_sub_cancel_left, List.take_length]
theorem tl_cut (z : Str) (lo hi : Option Int) : tl (L2.cutS z lo hi) = ((tl z).drop (HT.sIx (tl z).length 0 lo)).take (HT.sIx (tl z).length (tl z).length hi - HT.sIx (tl z).length 0 lo) := by
  rw [tl_len]
  rfl
/-- a text so often -/
def repS (z : Str) (n : Int) : Str := ⟨(List.replicate n.toNat z.cps).foldl (· ++ ·) #[]⟩
theorem tl_rep (z : Str) (c : Nat) (n : Int) (h : tl z = [c]) : tl (repS z n) = List.replicate n.toNat c := by
  have go : ∀ (k : Nat) (a : Array Nat), ((List.replicate k z.cps).foldl (· ++ ·) a).toList = a.toList ++ List.replicate k c := by
    intro k
    induction k with
    | zero => intro a; simp
    | succ k ih =>
      intro a
      rw [List.replicate_succ, List.foldl_cons, ih, Array.toList_append, show z.cps.toList = [c] from h, List.replicate_succ, List.append_assoc]
      rfl
  exact (go _ _).trans (by simp)
end Dg
namespace Rd
open PySem PySem.Spec PyProof.Rows L2 Dg
def rRepS : R2 := fun x y H Q => ∃ (z : Str) (n : Int), x = .str z ∧ y = .int n ∧ z.length = 1 ∧ -10000000 ≤ n ∧ n ≤ 10000000 ∧ Q (.str (repS z n)) H
theorem op_repS {X : Cx} : OpR X (binaryOp .Mult) rRepS := by
  intro pins s σ H x y v u Q I rx ry h
  obtain ⟨z, n, rfl, rfl, hz, h1, h2, q⟩ := h
  obtain ⟨t, rfl⟩ := rx
  obtain ⟨t', rfl⟩ := ry
  refine PySem.P.mul_str (by
    rw [decide_eq_false (by omega), decide_eq_false (by omega)]
    rfl) (fun _ _ => ?_) (fun _ _ => ?_) ?_
  · rw [hz]
    have : (1 : Int) ≤ (2 ^ 63 - 1) / n := by
      rw [Int.le_ediv_iff_mul_le (by omega)]
      omega
    omega
  · rw [hz]
    unfold PySem.Builtin.Str.tooLong
    have : (10000000 : Nat) ≤ sizeLine := by decide
    simp
    omega
  · split
    · rename_i c
      have e : repS z n = Str.empty := by
        unfold repS
        rw [Int.toNat_of_nonpos (by omega)]
        rfl
      rw [e] at q
      exact ⟨by decide, ⟨.str Str.empty, H, I.tok _, ⟨_, rfl⟩, q⟩⟩
    · split
      · rename_i c1 c2
        have e : repS z n = z := by
          have : n = 1 := by
            rw [hz] at c2
            simpa using c2
          subst this
          unfold repS
          simp
        rw [e] at q
        exact ⟨.str z, H, I, ⟨_, rfl⟩, q⟩
      · have hl : (repS z n).length ≤ sizeLine := by
          have := congrArg List.length (tl_rep z (z.cps.getD 0 0) n (by
            cases z with
            | mk a =>
              have h1 : a.size = 1 := hz
              obtain ⟨c, hc⟩ := Array.size_eq_one_iff.1 h1
              subst hc
              rfl))
          rw [tl_len, List.length_replicate] at this
          rw [this]
          have : (10000000 : Nat) ≤ sizeLine := by decide
          omega
        exact ⟨hl, ⟨.str (repS z n), H, I.tok _, ⟨_, rfl⟩, q⟩⟩
end Rd

set_option Elab.async false
set_option linter.all false
set_option maxRecDepth 100000
set_option autoImplicit false
set_option maxHeartbeats 4000000
/-! A list of anything, beside the empty list. -/
namespace Rd
open PySem PySem.Spec PyProof.Rows L2
def rNeNil (K : PySem.W.Frag) : R2 := fun x y H Q => ∃ l b xs, x = .ref l ∧ y = .ref b ∧ SqL K H l xs ∧ SqL K H b [] ∧ Q (.bl (!xs.isEmpty)) H
theorem op_neNil {X : Cx} (hu : X.A.units + 64 < cLine) : OpR X (compareOp .NotEq) (rNeNil X.K) := by
  intro pins s σ H x y v u Q I rx ry h
  obtain ⟨l, b, xs, rfl, rfl, hl, hb, q⟩ := h
  cases rx
  cases ry
  obtain ⟨its, r, e, z⟩ := I.list hl
  obtain ⟨its2, r2, e2, z2⟩ := I.list hb
  have l1 := r.length
  have l2 := r2.length
  have z0 : its2 = [] := List.length_eq_zero_iff.1 (by rw [← l2]; rfl)
  subst z0
  have go : ∀ k, k = !xs.isEmpty → SeqAt.RcNeAt X.A s (.ref l) (.ref b) k → wpAny (model X.prog X.w) X.A (compareOp .NotEq (.ref l) (.ref b)) (EP X pins σ Q) X.xe s := fun k hk h => by
    refine h _ _ _ _ ?_
    rw [hk]
    exact ⟨.bl _, H, I, rfl, q⟩
  cases xs with
  | nil =>
    have z1 : its = [] := List.length_eq_zero_iff.1 (by rw [← l1]; rfl)
    subst z1
    refine go false rfl ?_
    exact SeqAt.RcNeAt.lists (e := fun _ => true) e.isList e2.isList rfl (by omega) (fun j h1 h2 => absurd h1 (by simp))
  | cons x xs =>
    refine go true rfl ?_
    refine SeqAt.RcNeAt.lists_lengths e.isList e2.isList ?_ (by omega)
    cases its with
    | nil => cases l1
    | cons a as => rfl
/-- e.f, where the reading must not speak of the context -/
theorem pe_fldK {X : Cx} {K : PySem.W.Frag} {e : Expr} {f : Str} {pos : Pos} {ta : TE} (he : PE X e ta) (hb : attributeBase e f X.env (eval e X.env) = eval e X.env) (hk : X.K = K := by rfl) : PE X (.Attribute e f pos) (tFld K ta f) := hk ▸ pe_fld he hb
section
variable {H : Hp} {K : PySem.W.Frag} {l b : Addr} {xs : List V} {Q : VK}
theorem w_neNil (h1 : SqL K H l xs) (h2 : H b = some (.lst [])) (q : Q (.bl (!xs.isEmpty)) H) : rNeNil K (.ref l) (.ref b) H Q := ⟨l, b, xs, rfl, rfl, h1, SqL.of h2, q⟩
end
end Rd

set_option Elab.async false
set_option linter.all false
set_option maxRecDepth 100000
set_option autoImplicit false
set_option maxHeartbeats 4000000
/-! texts in a walk -/
namespace Rd
open PySem PySem.Spec PyProof.Rows L2 Dg
theorem _root_.L2.Room.units64S {k : Nat} {A : Around} (r : Room k A) : A.units + 64 < cLine := by have := r.un; omega
section
variable {K : PySem.W.Frag} {σ : L2.St} {H : Hp} {Q : VK}
theorem w_bmS {T : String} {rd : V → List V → Hp → VK → Prop} {to : TE} {ta : TA} (h : to σ H fun x H1 => tyV K T x H1 ∧ ta σ H1 fun vs H2 => rd x vs H2 Q) : tBM K T rd to ta σ H Q := h
theorem w_tyS {z : Str} : tyV K "str" (.str z) H := rfl
theorem w_tM1 {r : V → List V → Hp → VK → Prop} {to te : TE} (h : to σ H fun x H1 => (∃ a, x = .str a) ∧ te σ H1 fun y H2 => r x [y] H2 Q) : tM1 r to te σ H Q := h
theorem w_addS {x y : Str} {R : Str → Str → Prop} (h : x.length + y.length ≤ 100000) (q : R x y) : ∃ i j, V.str x = .str i ∧ V.str y = .str j ∧ i.length + j.length ≤ sizeLine ∧ R i j := ⟨x, y, rfl, rfl, Nat.le_trans h (by decide), q⟩
theorem w_slS {z : Str} {lo hi : Option Int} (h : z.length ≤ 100000) (q : Q (.str (cutS z lo hi)) H) : rSlS (.str z) lo hi H Q := ⟨z, rfl, Nat.le_trans h (by decide), q⟩
theorem w_ixS {z : Str} {i : Int} {c : Nat} (h : z.length ≤ 100000) (e : atI (TL.tl z) i = some c) (q : Q (.str ⟨#[c]⟩) H) : rIxS (.str z) (.int i) H Q := ⟨z, i, c, rfl, rfl, Nat.le_trans h (by decide), e, q⟩
theorem w_lenS {z : Str} {R : Str → Prop} (h : z.length ≤ 100000) (q : R z) : ∃ z', [V.str z] = [V.str z'] ∧ z'.length ≤ sizeLine ∧ R z' := ⟨z, rfl, Nat.le_trans h (by decide), q⟩
theorem w_neS {i j : Str} (q : Q (.bl (!decide (i = j))) H) : rNe (.str i) (.str j) H Q := ⟨rfl, by rw [dec_ss]; exact q⟩
theorem w_neB {i j : Bool} (q : Q (.bl (!decide (i = j))) H) : rNe (.bl i) (.bl j) H Q := ⟨rfl, by rw [show decide (V.bl i = V.bl j) = decide (i = j) from by by_cases c : i = j <;> simp [c]]; exact q⟩
theorem w_orT {ta tb : TE} (h : ta σ H fun x H1 => ∃ k, TruV K x H1 k ∧ if k = true then Q x H1 else tb σ H1 Q) : tOrT K ta tb σ H Q := h
theorem w_repS {z : Str} {n : Int} (hz : z.length = 1) (h1 : -10000000 ≤ n) (h2 : n ≤ 10000000) (q : Q (.str (repS z n)) H) : rRepS (.str z) (.int n) H Q := ⟨z, n, rfl, rfl, hz, h1, h2, q⟩
end
theorem len_of {z : Str} {l : List Nat} (h : TL.tl z = l) : z.length = l.length := by rw [← tl_len, h]
theorem str_eq {x y : Str} {l m : List Nat} (h : TL.tl x = l) (h' : TL.tl y = m) : x = y ↔ l = m := ⟨fun e => by rw [← h, ← h', e], fun e => str_ext (by rw [h, h', e])⟩
theorem len_app (x y : Str) : (x ++ y).length = x.length + y.length := by
  have := congrArg List.length (TL.tl_append x y)
  rw [List.length_append, tl_len, tl_len, tl_len] at this
  exact this
theorem len_rep {z : Str} {n : Int} (h : z.length = 1) : (repS z n).length = n.toNat := by
  have := congrArg List.length (tl_rep z (z.cps.getD 0 0) n (by
    cases z with
    | mk a =>
      obtain ⟨c, hc⟩ := Array.size_eq_one_iff.1 (show a.size = 1 from h)
      subst hc
      rfl))
  rw [tl_len, List.length_replicate] at this
  exact this
theorem len_cut (z : Str) (lo hi : Option Int) : (cutS z lo hi).length ≤ z.length := by
  rw [← tl_len, tl_cut, List.length_take, List.length_drop, tl_len]
  omega
theorem dg_le {m k : Nat} (h : m < 10 ^ (k + 1)) : (dg m).length ≤ k + 1 := by
  by_cases c : m = 0
  · subst c
    show 1 ≤ k + 1
    omega
  · obtain ⟨j, hj, h1, _⟩ := len_dg (show 0 < m by omega)
    have : ¬ k + 1 ≤ j := fun z => by
      have := Nat.pow_le_pow_right (show 0 < 10 by decide) z
      omega
    omega
theorem dg_pos (m : Nat) : 0 < (dg m).length := by
  by_cases c : m = 0
  · subst c
    decide
  · obtain ⟨j, hj, _⟩ := len_dg (show 0 < m by omega)
    omega
theorem at0 {l : List Nat} {c : Nat} {r : List Nat} (h : l = c :: r) : atI l 0 = some c := by
  subst h
  have e : ixN (c :: r).length 0 = some 0 := by
    unfold ixN
    rw [if_pos (by omega), if_pos (by rw [List.length_cons]; omega)]
    rfl
  unfold atI
  rw [e]
  rfl
/-- slices from a place, to a place -/
theorem cut_from {z : Str} {l : List Nat} {k : Nat} (h : TL.tl z = l) : TL.tl (cutS z (some (k : Nat)) none) = l.drop k := by
  rw [tl_cut, h, HT.sIx_none, HT.sIx_nat]
  rw [List.take_of_length_le (by rw [List.length_drop]; exact Nat.le_refl _)]
  by_cases c : k ≤ l.length
  · rw [Nat.min_eq_left c]
  · rw [Nat.min_eq_right (by omega), List.drop_length, List.drop_of_length_le (by omega)]
theorem cut_to {z : Str} {l : List Nat} {k : Nat} (h : TL.tl z = l) : TL.tl (cutS z none (some (k : Nat))) = l.take k := by
  rw [tl_cut, h, HT.sIx_none, HT.sIx_nat, List.drop_zero, Nat.sub_zero]
  by_cases c : k ≤ l.length
  · rw [Nat.min_eq_left c]
  · rw [Nat.min_eq_right (by omega), List.take_length, List.take_of_length_le (by omega)]
theorem part_at {z y : Str} {s : Nat} {a b : List Nat} (ey : TL.tl y = [s]) (ez : TL.tl z = a ++ s :: b) (h : s ∉ a) : Txt.partition z y = (⟨a.toArray⟩, y, ⟨b.toArray⟩) := by
  have e : z = (⟨a.toArray⟩ : Str) ++ y ++ (⟨b.toArray⟩ : Str) := str_ext (by
    rw [TL.tl_append, TL.tl_append, ey, ez]
    show _ = a.toArray.toList ++ [s] ++ b.toArray.toList
    simp)
  rw [e]
  exact TL.partition_app (S := []) ey (by simpa using h)
theorem part_no {z y : Str} {s : Nat} (ey : TL.tl y = [s]) (h : s ∉ TL.tl z) : Txt.partition z y = (z, Str.empty, Str.empty) := TL.partition_none ey h
theorem walk_str (x : Str) : Walk (Its x) x.length (fun _ => True) (fun i H v H' => H' = H ∧ ∃ c, (TL.tl x)[i]? = some c ∧ v = .str ⟨#[c]⟩) :=
  ⟨fun i H hi _ => hi, fun H _ => Nat.le_refl _, fun i H v H' hi _ y => by
    obtain ⟨e, c, hc, hv⟩ := y
    exact ⟨e, c, by rw [← hc]; exact Array.getElem?_toList, hv⟩⟩
section
variable {K : PySem.W.Frag} {σ : L2.St} {H : Hp} {Q : VK}
theorem w_lcS {wi : TI} {g : TG} {tt : TT} {te : TE} {vs : List Nat} (h : wi σ H fun J H1 => ∀ D, H1 D = none → ∃ W : Nat → Nat → Hp → Prop, (∃ m, W 0 m (upd H1 D (.lst []))) ∧ ∀ i m H, W i m H →
  (J.stop i H ∧ Q (.ref D) H) ∨ (J.go i H ∧ ∃ Nx : Hp → Prop, (∀ H', Nx H' → ∃ m', m' < m ∧ W (i + 1) m' H') ∧ ∀ x H', J.yld i H x H' → g x (wipe σ vs) H' fun σ2 H2 => wipe σ2 vs = wipe σ vs ∧ tt σ2 H2 fun b H3 =>
    if b = true then te σ2 H3 fun y H4 => ∃ acc, H4 D = some (.lst acc) ∧ acc.length < sizeLine ∧ Nx (upd H4 D (.lst (acc ++ [y]))) else Nx H3)) : tLc wi g tt te vs σ H Q := h
theorem w_iStr {te : TE} {R : It → Hp → Prop} (h : te σ H fun v H1 => ∃ x, v = .str x ∧ R (Its x) H1) : iStr te σ H R := h
theorem w_notInS {c : Nat} {z : Str} (q : Q (.bl (!decide (c ∈ TL.tl z))) H) : rNotInS (.str ⟨#[c]⟩) (.str z) H Q := ⟨c, z, rfl, rfl, q⟩
theorem w_yesS {R : Bool → Hp → Prop} (q : R true H) : tYes σ H R := q
end
end Rd

set_option Elab.async false
set_option linter.all false
set_option maxRecDepth 100000
set_option autoImplicit false
set_option maxHeartbeats 4000000
namespace Nu
open PySem PySem.Spec PyProof.Rows L2 Rd
local macro_rules | `(tactic| walk_at "hp") => `(tactic| first | assumption | (refine same_get ?sm ?_; (case sm => assumption); walk_at "hp"))
local macro_rules | `(tactic| walk_at "rd") => `(tactic| first
  | (with_reducible show Ends.nx _ _ _; with_reducible refine w_nx ?_)
  | with_reducible refine w_rt ?_
  | (with_reducible show Ends.bk _ _ _; with_reducible refine w_bk ?_)
  | (with_reducible show Ends.ct _ _ _; with_reducible refine w_ct ?_)
  | with_reducible refine w_seq ?_
  | with_reducible refine w_next ?_
  | with_reducible refine w_ret ?_
  | with_reducible refine w_ifS ?_
  | with_reducible refine w_asg ?_
  | with_reducible refine w_name ?_
  | with_reducible refine w_par ?_
  | with_reducible refine w_parI ?_
  | with_reducible refine w_ii ?_
  | with_reducible refine w_i1 ?_
  | with_reducible refine w_drop ?_
  | with_reducible refine w_sFld ?_
  | ((with_reducible refine' w_var ?rdh ?_); (case rdh => exact rfl))
  | with_reducible refine w_c ?_
  | with_reducible refine w_op ?_
  | with_reducible refine w_un ?_
  | with_reducible refine w_I0 ?_
  | with_reducible refine w_U ?_
  | with_reducible refine w_bits ?_
  | with_reducible refine w_bitsI ?_
  | with_reducible refine w_tup ?_
  | with_reducible refine w_lst ?_
  | with_reducible refine w_nil ?_
  | with_reducible refine w_cons ?_
  | with_reducible refine w_fld ?_
  | with_reducible refine w_call ?_
  | with_reducible refine w_make ?_
  | with_reducible refine w_gsub ?_
  | with_reducible refine w_int1 ?_
  | with_reducible refine w_intB ?_
  | with_reducible refine w_for ?_
  | with_reducible refine w_rng1 ?_
  | with_reducible refine w_iList ?_
  | with_reducible refine w_iTup ?_
  | with_reducible refine w_makeD ?_
  | with_reducible refine w_nn ?_
  | with_reducible refine w_subB ?_
  | with_reducible refine w_meth ?_
  | with_reducible refine w_cb ?_
  | with_reducible refine w_test ?_
  | with_reducible refine w_B ?_
  | with_reducible refine w_bl ?_
  | with_reducible refine w_andV ?_
  | with_reducible refine w_orV ?_
  | with_reducible refine w_notV ?_
  | with_reducible refine w_and ?_
  | with_reducible refine w_or ?_
  | with_reducible refine w_not ?_
  | with_reducible refine w_if ?_
  | with_reducible refine w_gnil ?_
  | with_reducible refine w_gcons ?_
  | with_reducible refine iT ?_
  | with_reducible refine iF ?_
  | with_reducible refine w_eqI ?_
  | with_reducible refine w_neI ?_
  | with_reducible refine w_eqS ?_
  | with_reducible refine w_eqIS ?_
  | with_reducible refine w_eqSI ?_)

abbrev s_text_of : Stmt := top 34
abbrev s_ten_times : Stmt := top 35
abbrev s_shown : Stmt := top 36
abbrev s_place_of_first : Stmt := top 37
abbrev s_rounded_at : Stmt := top 38
abbrev s_law_tens : Stmt := top 46
abbrev s_law_parts : Stmt := top 47
abbrev s_law_is_shown : Stmt := top 48
abbrev s_law_right : Stmt := top 49
abbrev s_law_known_right : Stmt := top 50
structure AllS (K : PySem.W.Frag) (mg : Str → Option Value) (CF : Addr) : Prop extends AllN K mg CF where
  c_SHOWN : ∃ t, mg "SHOWN" = some (.int 14 t)
  x_text_of : Tx K mg "text_of" "text_of" s_text_of ["number"]
  x_ten_times : Tx K mg "ten_times" "ten_times" s_ten_times ["many"]
  x_shown : Tx K mg "shown" "shown" s_shown ["number"]
  x_place_of_first : Tx K mg "place_of_first" "place_of_first" s_place_of_first ["top", "bottom"]
  x_rounded_at : Tx K mg "rounded_at" "rounded_at" s_rounded_at ["top", "bottom", "places"]
  x_tens : Tx K mg "_law_tens" "_law_tens" s_law_tens ["many"]
  x_parts : Tx K mg "_law_parts" "_law_parts" s_law_parts ["text"]
  x_is_shown : Tx K mg "_law_is_shown" "_law_is_shown" s_law_is_shown ["text", "top", "bottom"]
  x_right : Tx K mg "_law_right" "_law_right" s_law_right ["number"]
  x_known : Tx K mg "_law_known_right" "_law_known_right" s_law_known_right []
theorem pow10_pos (k : Nat) : (0 : Int) < 10 ^ k := Int.pow_pos (by decide)
theorem bits10 (k : Nat) : bits ((10 : Int) ^ k) ≤ 4 * k + 1 := by
  have h : (10 : Int) ^ k < 2 ^ (4 * k + 1) := by
    have h1 : (10 : Int) ^ k ≤ 16 ^ k := by
      have : (10 : Nat) ^ k ≤ 16 ^ k := Nat.pow_le_pow_left (by decide) k
      exact_mod_cast this
    have h2 : (16 : Int) ^ k = 2 ^ (4 * k) := by
      rw [Int.pow_mul]
      rfl
    rw [Int.pow_succ]
    have := pow_pos2 (4 * k)
    omega
  exact (bits_lt_pow (Int.le_of_lt (pow10_pos k))).2 h
section
variable {P : Program} {w : World} {K : PySem.W.Frag} {mg : Str → Option Value} {base : Heap} {CF : Addr}
/-! ### ten_times -/
def spTen : Sp := fun vs H Q _ => ∃ n : Nat, vs = [.int n] ∧ n ≤ 1100 ∧ ∀ H', Same H H' → Q (.int (10 ^ n)) H'
theorem sc_ten_times : FnScope ["many", "found", "factor"] ["many"] (defScope s_ten_times) := ⟨rfl, rfl, rfl, by decide +kernel, rfl, by decide +kernel, by decide +kernel⟩
theorem ok_ten_times (T : AllS K mg CF) : Kn P w K mg base CX0 1 "ten_times" ["many"] spTen := by
  refine T.x_ten_times.kn fun f fd F => ?_
  refine F.ok sc_ten_times (fun vs H Q E h => ?_) (fun cdv A outer s H vs Q E hr h => ?_)
  · obtain ⟨n, rfl, _⟩ := h
    rfl
  · obtain ⟨n, rfl, hn, q⟩ := h
    refine ⟨_, (pss_cons (ps_asg (pe_tup (pa_cons pe_int (pa_cons pe_int pa_nil))) (pg_tup (by rfl) (pgs_cons (pg_name (i := 1) sc_ten_times.nd rfl (Or.inl rfl)) (pgs_cons (pg_name (i := 2) sc_ten_times.nd rfl (Or.inl rfl)) pgs_nil))))
      (pss_cons (ps_while PassesOwn.never (pt_cmpR op_gt (pv 0) pe_int (nomark _))
      (pss_cons (ps_if (pt_cmpR op_eq (pe_op op_and (pv 0) pe_int) pe_int (nomark _)) (pss_one (ps_set (i := 1) sc_ten_times.nd rfl (Or.inl rfl) (pe_op op_mulX (pv 1) (pv 2)))) pss_nil)
      (pss_cons (ps_set (i := 2) sc_ten_times.nd rfl (Or.inl rfl) (pe_op op_mulX (pv 2) (pv 2)))
      (pss_one (ps_set (i := 0) sc_ten_times.nd rfl (Or.inl rfl) (pe_op op_shr (pv 0) pe_int))))))
      (pss_one (ps_ret (pv 1))))), ?_⟩
    repeat walk_at "rd"
    refine w_tup2 fun a1 H1 s1 n1 e1 => ?_
    refine w_gtup e1 rfl ?_
    repeat walk_at "rd"
    refine w_while (m := n) (fun m σ' H' => H' = H1 ∧ ∃ (k c e : Nat), m = k ∧ σ' = [some (.int (k : Nat)), some (.int (10 ^ c)), some (.int (10 ^ e))] ∧ c + e * k = n) ⟨rfl, n, 0, 1, rfl, rfl, by omega⟩ ?_
    rintro m σ' H' ⟨rfl, k, c, e, hm, rfl, hk⟩
    repeat walk_at "rd"
    refine iD (fun z => ?_) (fun z => ?_)
    · have hk0 : 0 < k := by omega
      have he : e ≤ n := by
        have : e * 1 ≤ e * k := Nat.mul_le_mul_left _ hk0
        omega
      have bc := bits10 c
      have be := bits10 e
      refine w_turn ?_
      repeat walk_at "rd"
      rw [and_one (Int.natCast_nonneg k)]
      have e2 : e + e = e * 2 := by omega
      have hk2 : (k : Int) / 2 ^ (1 : Int).toNat = ((k / 2 : Nat) : Int) := by
        show (k : Int) / 2 = _
        omega
      have sq : (10 : Int) ^ e * 10 ^ e = 10 ^ (e + e) := (Int.pow_add ..).symm
      refine iD (fun o => ?_) (fun o => ?_)
      · repeat walk_at "rd"
        refine w_I (cmulx (by omega) (by omega)) ?_
        repeat walk_at "rd"
        refine w_I (cmulx (by omega) (by omega)) ?_
        repeat walk_at "rd"
        refine w_I (show (0 : Int) ≤ 1 by decide) ?_
        repeat walk_at "rd"
        refine ⟨k / 2, by omega, rfl, k / 2, c + e, e + e, rfl, ?_, ?_⟩
        · rw [hk2, sq, ← Int.pow_add]
          rfl
        · have : e * k = e * (2 * (k / 2) + 1) := by congr 1; omega
          rw [Nat.mul_add, ← Nat.mul_assoc] at this
          rw [e2]
          omega
      · repeat walk_at "rd"
        refine w_I (cmulx (by omega) (by omega)) ?_
        repeat walk_at "rd"
        refine w_I (show (0 : Int) ≤ 1 by decide) ?_
        repeat walk_at "rd"
        refine ⟨k / 2, by omega, rfl, k / 2, c, e + e, rfl, ?_, ?_⟩
        · rw [hk2, sq]
          rfl
        · have : e * k = e * (2 * (k / 2)) := by congr 1; omega
          rw [← Nat.mul_assoc] at this
          rw [e2]
          omega
    · repeat walk_at "rd"
      have : k = 0 := by omega
      subst this
      rw [Nat.mul_zero, Nat.add_zero] at hk
      subst hk
      exact q _ s1
theorem u_ten {n : Int} {H : Hp} {Q : VK} {E : XK} (h0 : 0 ≤ n) (h : n ≤ 1100) (q : ∀ H', Same H H' → Q (.int (10 ^ n.toNat)) H') : spTen ([V.int n] ++ []) H Q E :=
  ⟨n.toNat, by rw [Int.toNat_of_nonneg h0]; rfl, by omega, q⟩
/-! ### place_of_first -/
/-- 10 ^ p is at most t / b, 10 ^ (p + 1) is greater -/
def PlaceOf (t b p : Int) : Prop := (0 ≤ p ∧ b * 10 ^ p.toNat ≤ t ∧ t < b * 10 ^ (p.toNat + 1)) ∨ (p < 0 ∧ b ≤ t * 10 ^ (0 - p).toNat ∧ t * 10 ^ ((0 - p).toNat - 1) < b)
theorem pow8 (k : Nat) : (2 : Int) ^ (3 * k) ≤ 10 ^ k := by
  have : (8 : Nat) ^ k ≤ 10 ^ k := Nat.pow_le_pow_left (by decide) k
  have h2 : (8 : Nat) ^ k = 2 ^ (3 * k) := by rw [Nat.pow_mul]
  rw [h2] at this
  exact_mod_cast this
theorem pow10_lt {k m : Nat} {i : Int} (h : (10 : Int) ^ k ≤ i) (hb : bits i ≤ m) : 3 * k < m + 1 := by
  have h0 : 0 ≤ i := Int.le_trans (Int.le_of_lt (pow10_pos k)) h
  have h1 := (bits_lt_pow h0).1 hb
  have h2 := pow8 k
  have h3 : (2 : Int) ^ (3 * k) < 2 ^ m := by omega
  have h4 : (2 : Nat) ^ (3 * k) < 2 ^ m := by exact_mod_cast h3
  have := (Nat.pow_lt_pow_iff_right (by decide : 1 < 2)).1 h4
  omega
theorem log_ok {i : Int} (hb : bits i ≤ 1100) : i.natAbs.log2 < 1920 := by
  have h := bits_le.1 hb
  by_cases c : i.natAbs = 0
  · rw [c]
    decide
  · have : i.natAbs.log2 < 1100 := (Nat.log2_lt c).2 h
    omega
theorem len_num {i : Int} (h : 0 < i) : ∃ k : Nat, ((Str.ofString (toString i)).length : Nat) = k + 1 ∧ (10 : Int) ^ k ≤ i ∧ i < 10 ^ (k + 1) := by
  obtain ⟨m, rfl⟩ := Int.eq_ofNat_of_zero_le (Int.le_of_lt h)
  obtain ⟨k, h1, h2, h3⟩ := Dg.len_dg (m := m) (by omega)
  refine ⟨k, ?_, by exact_mod_cast h2, by exact_mod_cast h3⟩
  rw [← Dg.tl_len, Dg.tl_num]
  exact h1
def spPlace : Sp := fun vs H Q _ => ∃ t b, vs = [.int t, .int b] ∧ 0 < t ∧ 0 < b ∧ bits t ≤ 1100 ∧ bits b ≤ 1100 ∧ ∀ p H', Same H H' → PlaceOf t b p → -370 ≤ p → p ≤ 370 → Q (.int p) H'
theorem sc_place_of_first : FnScope ["top", "bottom", "place"] ["top", "bottom"] (defScope s_place_of_first) := ⟨rfl, rfl, rfl, by decide +kernel, rfl, by decide +kernel, by decide +kernel⟩
theorem ok_place (T : AllS K mg CF) (k_ten_times : Kn P w K mg base CX0 1 "ten_times" ["many"] spTen) : Kn P w K mg base CX0 2 "place_of_first" ["top", "bottom"] spPlace := by
  refine T.x_place_of_first.kn fun f fd F => ?_
  refine F.ok sc_place_of_first (fun vs H Q E h => ?_) (fun cdv A outer s H vs Q E hr h => ?_)
  · obtain ⟨t, b, rfl, _⟩ := h
    rfl
  · obtain ⟨t, b, rfl, t0, b0, bt, bb, q⟩ := h
    refine ⟨_, (pss_cons (ps_if (pt_cmpR op_ge (pv 0) (pv 1) (nomark _)) (pss_one (ps_ret (pe_op op_sub (pe_callB call_len_str (by rfl) T.b_len boot_len (pa_cons (pe_callTy call_str_int (by rfl) T.b_str boot_str (pa_cons (pe_op op_fdivW (pv 0) (pv 1)) pa_nil)) pa_nil)) pe_int))) pss_nil)
      (pss_cons (ps_set (i := 2) sc_place_of_first.nd rfl (Or.inl rfl) (pe_op op_sub pe_int (pe_callB call_len_str (by rfl) T.b_len boot_len (pa_cons (pe_callTy call_str_int (by rfl) T.b_str boot_str (pa_cons (pe_op op_fdivW (pv 1) (pv 0)) pa_nil)) pa_nil))))
      (pss_cons (ps_if (pt_cmpR op_lt (pe_op op_mulX (pv 0) (pk k_ten_times hr (pa_cons (pe_op op_sub pe_int (pv 2)) pa_nil))) (pv 1) (nomark _)) (pss_one (ps_set (i := 2) sc_place_of_first.nd rfl (Or.inl rfl) (pe_op op_sub (pv 2) pe_int))) pss_nil)
      (pss_cons (ps_if (pt_cmpR op_ge (pe_op op_mulX (pv 0) (pk k_ten_times hr (pa_cons (pe_op op_sub (pe_op op_sub pe_int (pv 2)) pe_int) pa_nil))) (pv 1) (nomark _)) (pss_one (ps_set (i := 2) sc_place_of_first.nd rfl (Or.inl rfl) (pe_op op_add (pv 2) pe_int))) pss_nil)
      (pss_one (ps_ret (pv 2))))))), ?_⟩
    repeat walk_at "rd"
    refine iD (fun c => ?_) (fun c => ?_)
    · repeat walk_at "rd"
      refine w_I (cdivw b0 (by omega)) ?_
      repeat walk_at "rd"
      have q0 : 0 < t / b := by
        have : 1 ≤ t / b := (Int.le_ediv_iff_mul_le b0).2 (by omega)
        omega
      have qb : bits (t / b) ≤ 1100 := Int.le_trans (bits_mono (Int.le_of_lt q0) (Int.ediv_le_self b (Int.le_of_lt t0))) bt
      obtain ⟨k, hl, l1, l2⟩ := len_num q0
      refine ⟨log_ok qb, ?_⟩
      repeat walk_at "rd"
      have k3 := pow10_lt (m := 1100) l1 qb
      refine ⟨_, rfl, by rw [hl]; exact Nat.le_trans (show k + 1 ≤ 1000 by omega) (by decide), ?_⟩
      rw [hl]
      repeat walk_at "rd"
      have m1 := Int.mul_ediv_add_emod t b
      have m2 := Int.emod_nonneg t (show b ≠ 0 by omega)
      have m3 := Int.emod_lt_of_pos t b0
      have p1 : b * 10 ^ k ≤ b * (t / b) := Int.mul_le_mul_of_nonneg_left l1 (Int.le_of_lt b0)
      have p2 : b * (t / b + 1) ≤ b * 10 ^ (k + 1) := Int.mul_le_mul_of_nonneg_left (by omega) (Int.le_of_lt b0)
      rw [Int.mul_add, Int.mul_one] at p2
      rw [show ((k + 1 : Nat) : Int) - 1 = (k : Nat) by omega]
      exact q _ H (Same.refl H) (.inl ⟨by omega, by rw [Int.toNat_natCast]; omega, by rw [Int.toNat_natCast]; omega⟩) (by omega) (by omega)
    · repeat walk_at "rd"
      refine w_I (cdivw t0 (by omega)) ?_
      repeat walk_at "rd"
      have q0 : 0 < b / t := by
        have : 1 ≤ b / t := (Int.le_ediv_iff_mul_le t0).2 (by omega)
        omega
      have qb : bits (b / t) ≤ 1100 := Int.le_trans (bits_mono (Int.le_of_lt q0) (Int.ediv_le_self t (Int.le_of_lt b0))) bb
      obtain ⟨k, hl, l1, l2⟩ := len_num q0
      refine ⟨log_ok qb, ?_⟩
      repeat walk_at "rd"
      have k3 := pow10_lt (m := 1100) l1 qb
      refine ⟨_, rfl, by rw [hl]; exact Nat.le_trans (show k + 1 ≤ 1000 by omega) (by decide), ?_⟩
      rw [hl]
      repeat walk_at "rd"
      have m1 := Int.mul_ediv_add_emod b t
      have m2 := Int.emod_nonneg b (show t ≠ 0 by omega)
      have m3 := Int.emod_lt_of_pos b t0
      have p1 : t * 10 ^ k ≤ t * (b / t) := Int.mul_le_mul_of_nonneg_left l1 (Int.le_of_lt t0)
      have p2 : t * (b / t + 1) ≤ t * 10 ^ (k + 1) := Int.mul_le_mul_of_nonneg_left (by omega) (Int.le_of_lt t0)
      rw [Int.mul_add, Int.mul_one] at p2
      have e1 : (0 : Int) - (0 - ((k + 1 : Nat) : Int)) = ((k + 1 : Nat) : Int) := by omega
      have e2 : (0 : Int) - (0 - ((k + 1 : Nat) : Int)) - 1 = ((k : Nat) : Int) := by omega
      rw [e1]
      have b1 := bits10 k
      have b2 := bits10 (k + 1)
      refine u_ten (by omega) (by omega) fun H1 s1 => ?_
      rw [Int.toNat_natCast]
      repeat walk_at "rd"
      refine w_I (cmulx (by omega) (by omega)) ?_
      repeat walk_at "rd"
      refine iD (fun c2 => absurd c2 (by omega)) (fun _ => ?_)
      repeat walk_at "rd"
      rw [e2]
      refine u_ten (by omega) (by omega) fun H2 s2 => ?_
      rw [Int.toNat_natCast]
      repeat walk_at "rd"
      refine w_I (cmulx (by omega) (by omega)) ?_
      repeat walk_at "rd"
      refine iD (fun c3 => ?_) (fun c3 => ?_)
      · repeat walk_at "rd"
        have e3 : (0 : Int) - ((k + 1 : Nat) : Int) + 1 = 0 - (k : Nat) := by omega
        rw [e3]
        refine q _ H2 (s1.trans s2) ?_ (by omega) (by omega)
        have k0 : k ≠ 0 := fun z => by
          subst z
          rw [Int.pow_zero, Int.mul_one] at c3
          omega
        refine .inr ⟨by omega, ?_, ?_⟩
        · rw [show (0 - (0 - (k : Int))).toNat = k by omega]
          exact c3
        · rw [show (0 - (0 - (k : Int))).toNat = k by omega]
          have : t * 10 ^ (k - 1) * 10 = t * 10 ^ k := by
            rw [Int.mul_assoc, ← Int.pow_succ, Nat.succ_eq_add_one, show k - 1 + 1 = k by omega]
          omega
      · repeat walk_at "rd"
        refine q _ H2 (s1.trans s2) (.inr ⟨by omega, ?_, ?_⟩) (by omega) (by omega)
        · rw [show (0 - (0 - ((k + 1 : Nat) : Int))).toNat = k + 1 by omega]
          omega
        · rw [show (0 - (0 - ((k + 1 : Nat) : Int))).toNat - 1 = k by omega]
          omega
theorem u_place {t b : Int} {H : Hp} {Q : VK} {E : XK} (t0 : 0 < t) (b0 : 0 < b) (bt : bits t ≤ 1100) (bb : bits b ≤ 1100) (q : ∀ p H', Same H H' → PlaceOf t b p → -370 ≤ p → p ≤ 370 → Q (.int p) H') : spPlace ([V.int t, V.int b] ++ []) H Q E := ⟨t, b, rfl, t0, b0, bt, bb, q⟩
/-! ### rounded_at -/
def rdT (t pl : Int) : Int := if 0 ≤ pl then t * 10 ^ pl.toNat else t
def rdB (b pl : Int) : Int := if 0 ≤ pl then b else b * 10 ^ (0 - pl).toNat
def rdM (t b : Int) : Int := if b < 2 * (t % b) ∨ (2 * (t % b) = b ∧ (t / b) % 2 = 1) then t / b + 1 else t / b
def spRound : Sp := fun vs H Q _ => ∃ t b pl, vs = [.int t, .int b, .int pl] ∧ 0 < t ∧ 0 < b ∧ bits t ≤ 1100 ∧ bits b ≤ 1100 ∧ -400 ≤ pl ∧ pl ≤ 400 ∧ ∀ H', Same H H' → Q (.int (rdM (rdT t pl) (rdB b pl))) H'
theorem sc_rounded_at : FnScope ["top", "bottom", "places", "whole", "rest"] ["top", "bottom", "places"] (defScope s_rounded_at) := ⟨rfl, rfl, rfl, by decide +kernel, rfl, by decide +kernel, by decide +kernel⟩
theorem ok_round (T : AllS K mg CF) (k_ten_times : Kn P w K mg base CX0 1 "ten_times" ["many"] spTen) : Kn P w K mg base CX0 2 "rounded_at" ["top", "bottom", "places"] spRound := by
  refine T.x_rounded_at.kn fun f fd F => ?_
  refine F.ok sc_rounded_at (fun vs H Q E h => ?_) (fun cdv A outer s H vs Q E hr h => ?_)
  · obtain ⟨t, b, pl, rfl, _⟩ := h
    rfl
  · obtain ⟨t, b, pl, rfl, t0, b0, bt, bb, l0, l1, q⟩ := h
    refine ⟨_, (C8.pss_cut (ps_if (pt_cmpR op_ge (pv 2) pe_int (nomark _)) (pss_one (ps_set (i := 0) sc_rounded_at.nd rfl (Or.inl rfl) (pe_op op_mulX (pv 0) (pk k_ten_times hr (pa_cons (pv 2) pa_nil))))) (pss_one (ps_set (i := 1) sc_rounded_at.nd rfl (Or.inl rfl) (pe_op op_mulX (pv 1) (pk k_ten_times hr (pa_cons (pe_op op_sub pe_int (pv 2)) pa_nil))))))
      (pss_cons (ps_asg (pe_callB call_divmodW (by rfl) T.b_divmod boot_divmod (pa_cons (pv 0) (pa_cons (pv 1) pa_nil))) (pg_tup (by rfl) (pgs_cons (pg_name (i := 3) sc_rounded_at.nd rfl (Or.inl rfl)) (pgs_cons (pg_name (i := 4) sc_rounded_at.nd rfl (Or.inl rfl)) pgs_nil))))
      (pss_cons (ps_if (PW.pt (pw_or (pt_cmpR op_gt (pe_op op_mulX pe_int (pv 4)) (pv 1) (nomark _)) (pw_or1 (PW.pt (pw_and (pt_cmpR op_eq (pe_op op_mulX pe_int (pv 4)) (pv 1) (nomark _)) (pw_and1 (pt_cmpR op_eq (pe_op op_and (pv 3) pe_int) pe_int (nomark _)))))))) (pss_one (ps_set (i := 3) sc_rounded_at.nd rfl (Or.inl rfl) (pe_op op_add (pv 3) pe_int))) pss_nil)
      (pss_one (ps_ret (pv 3)))))), ?_⟩
    repeat walk_at "rd"
    refine w_cut (Mid := fun σ' H' => σ' = [some (.int (rdT t pl)), some (.int (rdB b pl)), some (.int pl), none, none] ∧ Same H H') ?_ ?_
    · repeat walk_at "rd"
      refine iD (fun c => ?_) (fun c => ?_)
      · repeat walk_at "rd"
        refine u_ten c (by omega) fun H1 s1 => ?_
        repeat walk_at "rd"
        have b1 := bits10 pl.toNat
        refine w_I (cmulx (by omega) (by omega)) ?_
        repeat walk_at "rd"
        refine ⟨?_, s1⟩
        unfold rdT rdB
        rw [if_pos c, if_pos c]
        rfl
      · repeat walk_at "rd"
        refine u_ten (by omega) (by omega) fun H1 s1 => ?_
        repeat walk_at "rd"
        have b1 := bits10 (0 - pl).toNat
        refine w_I (cmulx (by omega) (by omega)) ?_
        repeat walk_at "rd"
        refine ⟨?_, s1⟩
        unfold rdT rdB
        rw [if_neg c, if_neg c]
        rfl
    rintro σ' H1 ⟨rfl, s1⟩
    have T0 : 0 < rdT t pl := by
      unfold rdT
      split
      · exact Int.mul_pos t0 (pow10_pos _)
      · exact t0
    have B0 : 0 < rdB b pl := by
      unfold rdB
      split
      · exact b0
      · exact Int.mul_pos b0 (pow10_pos _)
    have BT : bits (rdT t pl) ≤ 3000 := by
      unfold rdT
      split
      · have h1 := bits_mul t (10 ^ pl.toNat)
        have h2 := bits10 pl.toNat
        omega
      · omega
    have BB : bits (rdB b pl) ≤ 3000 := by
      unfold rdB
      split
      · omega
      · have h1 := bits_mul b (10 ^ (0 - pl).toNat)
        have h2 := bits10 (0 - pl).toNat
        omega
    unfold rdM at q
    generalize rdT t pl = u at q T0 BT ⊢
    generalize rdB b pl = d at q B0 BB ⊢
    repeat walk_at "rd"
    refine ⟨cdivp B0 (by omega), fun a1 n1 => ?_⟩
    have s2 := same_upd (o := .tup [.int (u / d), .int (u % d)]) n1
    have e1 := upd_same (H := H1) (a := a1) (o := .tup [.int (u / d), .int (u % d)])
    generalize upd H1 a1 (.tup [.int (u / d), .int (u % d)]) = H2 at s2 e1 ⊢
    refine w_gtup e1 rfl ?_
    repeat walk_at "rd"
    have m2 := Int.emod_nonneg u (show d ≠ 0 by omega)
    have m3 := Int.emod_lt_of_pos u B0
    have w0 : 0 ≤ u / d := Int.ediv_nonneg (Int.le_of_lt T0) (Int.le_of_lt B0)
    have rb : bits (u % d) ≤ 3000 := Int.le_trans (bits_mono m2 (Int.le_of_lt m3)) BB
    refine w_I (cmulx (by decide) (by omega)) ?_
    repeat walk_at "rd"
    refine iD (fun c => ?_) (fun c => ?_)
    · rw [if_pos (.inl c)] at q
      refine iT ?_
      repeat walk_at "rd"
      exact q H2 (s1.trans s2)
    · repeat walk_at "rd"
      refine w_I (cmulx (by decide) (by omega)) ?_
      repeat walk_at "rd"
      refine iD (fun c2 => ?_) (fun c2 => ?_)
      · repeat walk_at "rd"
        rw [and_one w0]
        repeat walk_at "rd"
        refine iD (fun c3 => ?_) (fun c3 => ?_)
        · rw [if_pos (.inr ⟨c2, c3⟩)] at q
          repeat walk_at "rd"
          exact q H2 (s1.trans s2)
        · rw [if_neg (fun h => h.elim c fun h => c3 h.2)] at q
          repeat walk_at "rd"
          exact q H2 (s1.trans s2)
      · rw [if_neg (fun h => h.elim c fun h => c2 h.1)] at q
        repeat walk_at "rd"
        exact q H2 (s1.trans s2)
theorem u_round {t b pl : Int} {H : Hp} {Q : VK} {E : XK} (t0 : 0 < t) (b0 : 0 < b) (bt : bits t ≤ 1100) (bb : bits b ≤ 1100) (l0 : -400 ≤ pl) (l1 : pl ≤ 400) (q : ∀ H', Same H H' → Q (.int (rdM (rdT t pl) (rdB b pl))) H') : spRound ([V.int t, V.int b, V.int pl] ++ []) H Q E := ⟨t, b, pl, rfl, t0, b0, bt, bb, l0, l1, q⟩
end
end Nu

set_option Elab.async false
set_option linter.all false
set_option maxRecDepth 100000
set_option autoImplicit false
set_option maxHeartbeats 4000000
namespace Nu
open PySem PySem.Spec PyProof.Rows L2 Rd Dg TL PySem.NumText
local macro_rules | `(tactic| walk_at "hp") => `(tactic| first | assumption | (refine same_get ?sm ?_; (case sm => assumption); walk_at "hp"))
local macro_rules | `(tactic| walk_at "rd") => `(tactic| first
  | (with_reducible show Ends.nx _ _ _; with_reducible refine w_nx ?_)
  | with_reducible refine w_rt ?_
  | (with_reducible show Ends.bk _ _ _; with_reducible refine w_bk ?_)
  | (with_reducible show Ends.ct _ _ _; with_reducible refine w_ct ?_)
  | with_reducible refine w_seq ?_
  | with_reducible refine w_next ?_
  | with_reducible refine w_ret ?_
  | with_reducible refine w_ifS ?_
  | with_reducible refine w_asg ?_
  | with_reducible refine w_name ?_
  | with_reducible refine w_par ?_
  | with_reducible refine w_parI ?_
  | with_reducible refine w_ii ?_
  | with_reducible refine w_i1 ?_
  | with_reducible refine w_drop ?_
  | with_reducible refine w_sFld ?_
  | ((with_reducible refine' w_var ?rdh ?_); (case rdh => exact rfl))
  | with_reducible refine w_c ?_
  | with_reducible refine w_op ?_
  | with_reducible refine w_un ?_
  | with_reducible refine w_I0 ?_
  | with_reducible refine w_U ?_
  | with_reducible refine w_bits ?_
  | with_reducible refine w_bitsI ?_
  | with_reducible refine w_tup ?_
  | with_reducible refine w_lst ?_
  | with_reducible refine w_nil ?_
  | with_reducible refine w_cons ?_
  | with_reducible refine w_fld ?_
  | with_reducible refine w_call ?_
  | with_reducible refine w_make ?_
  | with_reducible refine w_gsub ?_
  | with_reducible refine w_int1 ?_
  | with_reducible refine w_intB ?_
  | with_reducible refine w_for ?_
  | with_reducible refine w_rng1 ?_
  | with_reducible refine w_iList ?_
  | with_reducible refine w_iTup ?_
  | with_reducible refine w_makeD ?_
  | with_reducible refine w_nn ?_
  | with_reducible refine w_subB ?_
  | with_reducible refine w_meth ?_
  | with_reducible refine w_cb ?_
  | with_reducible refine w_test ?_
  | with_reducible refine w_B ?_
  | with_reducible refine w_bl ?_
  | with_reducible refine w_andV ?_
  | with_reducible refine w_orV ?_
  | with_reducible refine w_notV ?_
  | with_reducible refine w_and ?_
  | with_reducible refine w_or ?_
  | with_reducible refine w_not ?_
  | with_reducible refine w_if ?_
  | with_reducible refine w_gnil ?_
  | with_reducible refine w_gcons ?_
  | with_reducible refine iT ?_
  | with_reducible refine iF ?_
  | with_reducible refine w_eqI ?_
  | with_reducible refine w_neI ?_
  | with_reducible refine w_eqS ?_
  | with_reducible refine w_eqIS ?_
  | with_reducible refine w_eqSI ?_)

/-- the text of figures ds, the first one at the place p -/
def shL (ds : List Nat) (p : Int) : List Nat :=
  if p < -4 ∨ 14 ≤ p then ds.take 1 ++ (if 1 < ds.length then [46] else []) ++ ds.drop 1 ++ [101] ++ [if p < 0 then 45 else 43] ++ List.replicate (2 - (dg p.natAbs).length) 48 ++ dg p.natAbs
  else if p < 0 then [48, 46] ++ List.replicate (0 - p - 1).toNat 48 ++ ds
  else (ds ++ List.replicate (p + 1 - ds.length).toNat 48).take (p + 1).toNat ++ [46] ++ (if (ds ++ List.replicate (p + 1 - ds.length).toNat 48).drop (p + 1).toNat = [] then [48] else (ds ++ List.replicate (p + 1 - ds.length).toNat 48).drop (p + 1).toNat)
/-- figures and place, rounded -/
def shF (t b p : Int) : Int := if rdM (rdT t (13 - p)) (rdB b (13 - p)) = 100000000000000 then 10000000000000 else rdM (rdT t (13 - p)) (rdB b (13 - p))
def shP (t b p : Int) : Int := if rdM (rdT t (13 - p)) (rdB b (13 - p)) = 100000000000000 then p + 1 else p
def shM (t b p : Int) : List Nat := shL (strip0 (dg (shF t b p).toNat)) (shP t b p)
theorem tlE : tl ("e" : Str) = [101] := by decide +kernel
theorem tlM : tl ("-" : Str) = [45] := by decide +kernel
theorem tlP : tl ("+" : Str) = [43] := by decide +kernel
theorem tl0 : tl ("0." : Str) = [48, 46] := by decide +kernel
theorem tlD : tl ("." : Str) = [46] := by decide +kernel
theorem tlZ : tl ("0" : Str) = [48] := by decide +kernel
theorem place_sc {t b p : Int} (h : PlaceOf t b p) : rdB b (13 - p) * 10 ^ 13 ≤ rdT t (13 - p) ∧ rdT t (13 - p) < rdB b (13 - p) * 10 ^ 14 := by
  unfold rdT rdB
  rcases h with ⟨h0, h1, h2⟩ | ⟨h0, h1, h2⟩
  · obtain ⟨n, rfl⟩ := Int.eq_ofNat_of_zero_le h0
    rw [Int.toNat_natCast] at h1 h2
    by_cases c : (0 : Int) ≤ 13 - (n : Int)
    · rw [if_pos c, if_pos c]
      have e : (13 - (n : Int)).toNat = 13 - n := by omega
      rw [e]
      have pp := pow10_pos (13 - n)
      have e1 : (10 : Int) ^ 13 = 10 ^ n * 10 ^ (13 - n) := by rw [← Int.pow_add, show n + (13 - n) = 13 by omega]
      have e2 : (10 : Int) ^ 14 = 10 ^ (n + 1) * 10 ^ (13 - n) := by rw [← Int.pow_add, show n + 1 + (13 - n) = 14 by omega]
      rw [e1, e2, ← Int.mul_assoc, ← Int.mul_assoc]
      exact ⟨Int.mul_le_mul_of_nonneg_right h1 (Int.le_of_lt pp), Int.mul_lt_mul_of_pos_right h2 pp⟩
    · rw [if_neg c, if_neg c]
      have e : (0 - (13 - (n : Int))).toNat = n - 13 := by omega
      rw [e, Int.mul_assoc, Int.mul_assoc, ← Int.pow_add, ← Int.pow_add, show n - 13 + 13 = n by omega, show n - 13 + 14 = n + 1 by omega]
      exact ⟨h1, h2⟩
  · obtain ⟨n, hn⟩ : ∃ n : Nat, p = -((n + 1 : Nat) : Int) := ⟨(0 - p).toNat - 1, by omega⟩
    subst hn
    have e0 : (0 - -((n + 1 : Nat) : Int)).toNat = n + 1 := by omega
    rw [e0] at h1 h2
    rw [show n + 1 - 1 = n by omega] at h2
    rw [if_pos (by omega), if_pos (by omega), show (13 - -((n + 1 : Nat) : Int)).toNat = n + 1 + 13 by omega]
    have p13 := pow10_pos 13
    have p14 := pow10_pos 14
    constructor
    · rw [Int.pow_add, ← Int.mul_assoc]
      exact Int.mul_le_mul_of_nonneg_right h1 (Int.le_of_lt p13)
    · rw [show n + 1 + 13 = n + 14 by omega, Int.pow_add, ← Int.mul_assoc]
      exact Int.mul_lt_mul_of_pos_right h2 p14
theorem rdB_pos {b pl : Int} (h : 0 < b) : 0 < rdB b pl := by
  unfold rdB
  split
  · exact h
  · exact Int.mul_pos h (pow10_pos _)
/-- rounded figures are fourteen -/
theorem rd_rng {t b p : Int} (b0 : 0 < b) (h : PlaceOf t b p) : 10000000000000 ≤ rdM (rdT t (13 - p)) (rdB b (13 - p)) ∧ rdM (rdT t (13 - p)) (rdB b (13 - p)) ≤ 100000000000000 := by
  obtain ⟨h1, h2⟩ := place_sc h
  have hB := rdB_pos (pl := 13 - p) b0
  unfold rdM
  generalize rdT t (13 - p) = T at *
  generalize rdB b (13 - p) = B at *
  have l : 10000000000000 ≤ T / B := (Int.le_ediv_iff_mul_le hB).2 (by rw [Int.mul_comm]; exact h1)
  have u : T / B < 100000000000000 := (Int.ediv_lt_iff_lt_mul hB).2 (by rw [Int.mul_comm]; exact h2)
  split <;> omega
section
variable {P : Program} {w : World} {K : PySem.W.Frag} {mg : Str → Option Value} {base : Heap} {CF : Addr}
def spShown (CF : Addr) : Sp := fun vs H Q _ => ∃ a t p, vs = [.ref a] ∧ FlAt CF H a (.fin 1 t p) ∧ (Fl.fin 1 t p).ok ∧ 0 < t ∧ ∀ pl z H', Same H H' → PlaceOf (ratT 1 t p) (ratB p) pl → -370 ≤ pl → pl ≤ 370 → tl z = shM (ratT 1 t p) (ratB p) pl → Q (.str z) H'
theorem sc_shown : FnScope ["number", "top", "bottom", "place", "figures", "signs", "point", "far"] ["number"] (defScope s_shown) := ⟨rfl, rfl, rfl, by decide +kernel, rfl, by decide +kernel, by decide +kernel⟩
theorem ok_shown (T : AllS K mg CF) (k_Float_ratio : KnM P w K mg base CX0 1 CF "ratio" ["self"] (spRatio CF)) (k_place_of_first : Kn P w K mg base CX0 2 "place_of_first" ["top", "bottom"] spPlace) (k_rounded_at : Kn P w K mg base CX0 2 "rounded_at" ["top", "bottom", "places"] spRound) : Kn P w K mg base CX0 3 "shown" ["number"] (spShown CF) := by
  refine T.x_shown.kn fun f fd F => ?_
  refine F.ok sc_shown (fun vs H Q E h => ?_) (fun cdv A outer s H vs Q E hr h => ?_)
  · obtain ⟨a, t, p, rfl, _⟩ := h
    rfl
  · obtain ⟨a, t, p, rfl, hf, ok, t0, q⟩ := h
    refine ⟨_, (pss_cons (ps_asg (pkM0 k_Float_ratio T.l_Float hr (pv 0) rfl) (pg_tup (by rfl) (pgs_cons (pg_name (i := 1) sc_shown.nd rfl (Or.inl rfl)) (pgs_cons (pg_name (i := 2) sc_shown.nd rfl (Or.inl rfl)) pgs_nil))))
      (pss_cons (ps_set (i := 3) sc_shown.nd rfl (Or.inl rfl) (pk k_place_of_first hr (pa_cons (pv 1) (pa_cons (pv 2) pa_nil))))
      (pss_cons (ps_set (i := 4) sc_shown.nd rfl (Or.inl rfl) (pk k_rounded_at hr (pa_cons (pv 1) (pa_cons (pv 2) (pa_cons (pe_op op_sub (pe_op op_sub (pgE "SHOWN" T.c_SHOWN) pe_int) (pv 3)) pa_nil)))))
      (C8.pss_cut (ps_if (pt_cmpR op_eq (pv 4) (pe_op op_pow pe_int pe_int) (nomark _)) (pss_cons (ps_set (i := 4) sc_shown.nd rfl (Or.inl rfl) (pe_op op_fdivW (pv 4) pe_int))
      (pss_one (ps_set (i := 3) sc_shown.nd rfl (Or.inl rfl) (pe_op op_add (pv 3) pe_int)))) pss_nil)
      (pss_cons (ps_set (i := 5) sc_shown.nd rfl (Or.inl rfl) (pe_bm PySem.F.plainAttrs_str PySem.F.slot_str_rstrip PySem.F.type_str_rstrip mt_rstripChars (pe_callTy call_str_int (by rfl) T.b_str boot_str (pa_cons (pv 4) pa_nil)) (pa_cons pe_str pa_nil)))
      (pss_cons (ps_if (PW.pt (pw_or (pt_cmpR op_lt (pv 3) (pe_un un_neg pe_int) (nomark _)) (pw_or1 (pt_cmpR op_ge (pv 3) (pgE "SHOWN" T.c_SHOWN) (nomark _))))) (C8.pss_cut (ps_set (i := 6) sc_shown.nd rfl (Or.inl rfl) (pe_ifExp (pt_cmpR op_gt (pe_callB call_len_str (by rfl) T.b_len boot_len (pa_cons (pv 5) pa_nil)) pe_int (nomark _)) pe_str pe_str))
      (pss_cons (ps_set (i := 7) sc_shown.nd rfl (Or.inl rfl) (pe_callTy call_str_int (by rfl) T.b_str boot_str (pa_cons (pe_callB call_abs (by rfl) T.b_abs boot_abs (pa_cons (pv 3) pa_nil)) pa_nil)))
      (pss_one (ps_ret (pe_op op_add_str (pe_op op_add_str (pe_op op_add_str (pe_op op_add_str (pe_op op_add_str (pe_op op_add_str (pe_ix ix_str (pv 5) pe_int (fun _ _ => rfl)) (pv 6)) (pe_slice sl_str (pv 5) (po_some pe_int) po_none)) pe_str) (pe_ifExp (pt_cmpR op_lt (pv 3) pe_int (nomark _)) pe_str pe_str)) (pe_op op_repS pe_str (pe_op op_sub pe_int (pe_callB call_len_str (by rfl) T.b_len boot_len (pa_cons (pv 7) pa_nil))))) (pv 7)))))) pss_nil)
      (pss_cons (ps_if (pt_cmpR op_lt (pv 3) pe_int (nomark _)) (pss_one (ps_ret (pe_op op_add_str (pe_op op_add_str pe_str (pe_op op_repS pe_str (pe_op op_sub (pe_op op_sub pe_int (pv 3)) pe_int))) (pv 5)))) pss_nil)
      (pss_cons (ps_set (i := 5) sc_shown.nd rfl (Or.inl rfl) (pe_op op_add_str (pv 5) (pe_op op_repS pe_str (pe_op op_sub (pe_op op_add (pv 3) pe_int) (pe_callB call_len_str (by rfl) T.b_len boot_len (pa_cons (pv 5) pa_nil))))))
      (pss_one (ps_ret (pe_op op_add_str (pe_op op_add_str (pe_slice sl_str (pv 5) po_none (po_some (pe_op op_add (pv 3) pe_int))) pe_str) (pe_orT (pe_slice sl_str (pv 5) (po_some (pe_op op_add (pv 3) pe_int)) po_none) (pe_one pe_str))))))))))))), ?_⟩
    obtain ⟨dx, h1⟩ := id hf
    repeat walk_at "rd"
    refine w_methI h1 (flds_no _ _ _ (by decide +kernel) (by decide +kernel) (by decide +kernel)) ?_
    repeat walk_at "rd"
    refine ⟨a, 1, t, p, rfl, hf, ok, fun a1 H1 s1 n1 e1 => ?_⟩
    refine w_gtup e1 rfl ?_
    repeat walk_at "rd"
    have t1 : 0 < ratT 1 t p := by
      unfold ratT
      split
      · omega
      · rw [Int.one_mul]
        exact Int.mul_pos t0 (pow_pos2 _)
    have b1 : 0 < ratB p := by
      unfold ratB
      split
      · exact pow_pos2 _
      · decide
    obtain ⟨-, bt0, p1, p2, t00, tp⟩ := ok_bounds ok
    have bt : bits (ratT 1 t p) ≤ 1100 := by
      unfold ratT
      split
      · rw [Int.one_mul]
        omega
      · rw [Int.one_mul]
        have h1 := bits_mul t (2 ^ p.toNat)
        have h2 := bits_pow p.toNat
        omega
    have bb : bits (ratB p) ≤ 1100 := by
      unfold ratB
      split
      · rw [bits_pow]
        omega
      · decide
    generalize ratT 1 t p = U at *
    generalize ratB p = B at *
    refine u_place t1 b1 bt bb fun pl H2 s2 hp l0 l1 => ?_
    repeat walk_at "rd"
    refine u_round t1 b1 bt bb (by omega) (by omega) fun H3 s3 => ?_
    rw [show (14 : Int) - 1 - pl = 13 - pl by omega]
    have s13 := s1.trans (s2.trans s3)
    obtain ⟨r0, r1⟩ := rd_rng b1 hp
    repeat walk_at "rd"
    refine w_cut (Mid := fun σ' H' => H' = H3 ∧ σ' = [some (.ref a), some (.int U), some (.int B), some (.int (shP U B pl)), some (.int (shF U B pl)), none, none, none]) ?_ ?_
    · repeat walk_at "rd"
      refine w_I ⟨by decide, by decide, by decide⟩ ?_
      repeat walk_at "rd"
      refine iD (fun c => ?_) (fun c => ?_)
      · repeat walk_at "rd"
        refine w_I (cdivw (by decide) (by decide)) ?_
        repeat walk_at "rd"
        refine ⟨rfl, ?_⟩
        unfold shP shF
        rw [show (10 : Int) ^ (14 : Int).toNat = 100000000000000 by decide] at c
        rw [if_pos c, if_pos c, c]
        rfl
      · repeat walk_at "rd"
        refine ⟨rfl, ?_⟩
        unfold shP shF
        rw [show (10 : Int) ^ (14 : Int).toNat = 100000000000000 by decide] at c
        rw [if_neg c, if_neg c]
        rfl
    rintro σ' H' ⟨rfl, rfl⟩
    have qq : ∀ z, tl z = shL (strip0 (dg (shF U B pl).toNat)) (shP U B pl) → Q (.str z) H' := fun z hz => q pl z H' s13 hp l0 l1 hz
    have f0 : 10000000000000 ≤ shF U B pl := by unfold shF; split <;> omega
    have f1 : shF U B pl < 100000000000000 := by unfold shF; split <;> omega
    have p0 : -370 ≤ shP U B pl ∧ shP U B pl ≤ 371 := by unfold shP; split <;> omega
    generalize shF U B pl = fg at *
    generalize shP U B pl = pp at *
    clear q hp l0 l1 r0 r1 bt bb t1 b1 e1
    repeat walk_at "rd"
    obtain ⟨m, rfl⟩ := Int.eq_ofNat_of_zero_le (show 0 ≤ fg by omega)
    rw [Int.toNat_natCast] at qq
    have hlen : (dg m).length = 14 := dg_len (k := 13) (by omega) (by omega)
    have m0 : 0 < m := by omega
    obtain ⟨kz, hsp, hlast⟩ := strip0_split (dg m)
    obtain ⟨c0, r0, hds, hc0⟩ : ∃ c r, strip0 (dg m) = c :: r ∧ 49 ≤ c := by
      obtain ⟨c, r, e, hc⟩ := dg_head m0
      rw [e] at hsp
      cases hd : strip0 (dg m) with
      | nil =>
        rw [e] at hd
        rw [hd] at hsp
        cases kz with
        | zero => cases hsp
        | succ k => rw [List.nil_append, List.replicate_succ] at hsp; cases hsp; omega
      | cons c' r' =>
        rw [e] at hd
        rw [hd] at hsp
        cases hsp
        exact ⟨_, _, rfl, hc⟩
    have lds : (strip0 (dg m)).length ≤ 14 := by
      have := congrArg List.length hsp
      rw [List.length_append, hlen] at this
      omega
    refine w_bmS ?_
    repeat walk_at "rd"
    refine ⟨log_ok (by exact Int.le_trans (bits_mono (Int.natCast_nonneg m) (show ((m : Nat) : Int) ≤ 100000000000000 by omega)) (by decide)), ?_⟩
    refine ⟨w_tyS, ?_⟩
    repeat walk_at "rd"
    have hz : tl (Txt.rstripChars (Str.ofString (toString ((m : Nat) : Int))) "0") = strip0 (dg m) := by rw [rstrip0, Dg.tl_num]
    refine ⟨_, _, rfl, rfl, by rw [len_of (Dg.tl_num m), hlen]; decide, ?_⟩
    generalize Txt.rstripChars (Str.ofString (toString ((m : Nat) : Int))) "0" = Z at hz ⊢
    generalize strip0 (dg m) = ds at *
    have lz := len_of hz
    repeat walk_at "rd"
    by_cases cA : pp < -4 ∨ 14 ≤ pp
    · have eS : shL ds pp = _ := if_pos cA
      rw [eS] at qq
      by_cases cm : pp < -4
      · refine iD (fun _ => ?_) (fun c => absurd cm c)
        refine iT ?_
        repeat walk_at "rd"
        refine w_cut (Mid := fun σ' H'' => H'' = H' ∧ ∃ X : Str, tl X = (if 1 < ds.length then [46] else []) ∧ σ' = [some (.ref a), some (.int U), some (.int B), some (.int pp), some (.int (m : Nat)), some (.str Z), some (.str X), none]) ?_ ?_
        · repeat walk_at "rd"
          refine w_lenS (by omega) ?_
          rw [lz]
          repeat walk_at "rd"
          refine iD (fun c2 => ?_) (fun c2 => ?_)
          · repeat walk_at "rd"
            exact ⟨rfl, _, by rw [if_pos (by omega)]; decide +kernel, rfl⟩
          · repeat walk_at "rd"
            exact ⟨rfl, _, by rw [if_neg (by omega)]; decide +kernel, rfl⟩
        rintro σ' H'' ⟨rfl, X, hX, rfl⟩
        have lX := len_of hX
        have lX1 : X.length ≤ 1 := by rw [lX]; split <;> simp
        repeat walk_at "rd"
        rw [show (if pp < 0 then -pp else pp) = ((pp.natAbs : Nat) : Int) by split <;> omega]
        refine ⟨log_ok (Int.le_trans (bits_mono (Int.natCast_nonneg _) (show ((pp.natAbs : Nat) : Int) ≤ 1000 by omega)) (by decide)), ?_⟩
        have hf2 := Dg.tl_num pp.natAbs
        have lf : (dg pp.natAbs).length ≤ 3 := dg_le (k := 2) (by omega)
        generalize Str.ofString (toString ((pp.natAbs : Nat) : Int)) = Y at hf2 ⊢
        have lY := len_of hf2
        repeat walk_at "rd"
        refine w_ixS (c := c0) (by omega) (at0 (hz.trans hds)) ?_
        repeat walk_at "rd"
        refine w_addS ?_ ?_
        · show 1 + X.length ≤ _
          omega
        repeat walk_at "rd"
        refine w_sl ?_
        repeat walk_at "rd"
        refine w_part ?_
        repeat walk_at "rd"
        refine w_noPart ?_
        refine w_slS (by omega) ?_
        have h1c := cut_from (k := 1) hz
        have l1c := len_of h1c
        rw [List.length_drop] at l1c
        rw [show (1 : Int) = ((1 : Nat) : Int) from rfl]
        generalize cutS Z (some ((1 : Nat) : Int)) none = Z1 at h1c l1c ⊢
        repeat walk_at "rd"
        refine w_addS (by rw [len_app]; show 1 + X.length + Z1.length ≤ _; omega) ?_
        repeat walk_at "rd"
        refine w_addS (by rw [len_app, len_app]; show 1 + X.length + Z1.length + 1 ≤ _; omega) ?_
        repeat walk_at "rd"
        refine iD (fun _ => ?_) (fun c => absurd (by omega) c)
        repeat walk_at "rd"
        refine w_addS (by rw [len_app, len_app, len_app]; show 1 + X.length + Z1.length + 1 + 1 ≤ _; omega) ?_
        repeat walk_at "rd"
        refine w_lenS (by omega) ?_
        rw [lY]
        repeat walk_at "rd"
        refine w_repS (by decide) (by omega) (by omega) ?_
        have hR := tl_rep "0" 48 (2 - ((dg pp.natAbs).length : Int)) (by decide +kernel)
        have lR := len_of hR
        rw [List.length_replicate] at lR
        generalize repS "0" (2 - ((dg pp.natAbs).length : Int)) = R at hR lR ⊢
        repeat walk_at "rd"
        refine w_addS (by simp only [len_app]; show 1 + X.length + Z1.length + 1 + 1 + R.length ≤ _; omega) ?_
        repeat walk_at "rd"
        refine w_addS (by simp only [len_app]; show 1 + X.length + Z1.length + 1 + 1 + R.length + Y.length ≤ _; omega) ?_
        repeat walk_at "rd"
        refine qq _ ?_
        simp only [TL.tl_append, hX, h1c, hR, hf2]
        rw [show tl (⟨#[c0]⟩ : Str) = [c0] from rfl, tlE, tlM, show (2 - ((dg pp.natAbs).length : Int)).toNat = 2 - (dg pp.natAbs).length by omega, if_pos (show pp < 0 by omega), hds]
        rfl
      · have c14 : 14 ≤ pp := cA.resolve_left cm
        refine iD (fun c => absurd c cm) (fun _ => ?_)
        repeat walk_at "rd"
        refine iD (fun _ => ?_) (fun c => absurd c14 c)
        repeat walk_at "rd"
        refine w_cut (Mid := fun σ' H'' => H'' = H' ∧ ∃ X : Str, tl X = (if 1 < ds.length then [46] else []) ∧ σ' = [some (.ref a), some (.int U), some (.int B), some (.int pp), some (.int (m : Nat)), some (.str Z), some (.str X), none]) ?_ ?_
        · repeat walk_at "rd"
          refine w_lenS (by omega) ?_
          rw [lz]
          repeat walk_at "rd"
          refine iD (fun c2 => ?_) (fun c2 => ?_)
          · repeat walk_at "rd"
            exact ⟨rfl, _, by rw [if_pos (by omega)]; decide +kernel, rfl⟩
          · repeat walk_at "rd"
            exact ⟨rfl, _, by rw [if_neg (by omega)]; decide +kernel, rfl⟩
        rintro σ' H'' ⟨rfl, X, hX, rfl⟩
        have lX := len_of hX
        have lX1 : X.length ≤ 1 := by rw [lX]; split <;> simp
        repeat walk_at "rd"
        rw [show (if pp < 0 then -pp else pp) = ((pp.natAbs : Nat) : Int) by split <;> omega]
        refine ⟨log_ok (Int.le_trans (bits_mono (Int.natCast_nonneg _) (show ((pp.natAbs : Nat) : Int) ≤ 1000 by omega)) (by decide)), ?_⟩
        have hf2 := Dg.tl_num pp.natAbs
        have lf : (dg pp.natAbs).length ≤ 3 := dg_le (k := 2) (by omega)
        generalize Str.ofString (toString ((pp.natAbs : Nat) : Int)) = Y at hf2 ⊢
        have lY := len_of hf2
        repeat walk_at "rd"
        refine w_ixS (c := c0) (by omega) (at0 (hz.trans hds)) ?_
        repeat walk_at "rd"
        refine w_addS ?_ ?_
        · show 1 + X.length ≤ _
          omega
        repeat walk_at "rd"
        refine w_sl ?_
        repeat walk_at "rd"
        refine w_part ?_
        repeat walk_at "rd"
        refine w_noPart ?_
        refine w_slS (by omega) ?_
        have h1c := cut_from (k := 1) hz
        have l1c := len_of h1c
        rw [List.length_drop] at l1c
        rw [show (1 : Int) = ((1 : Nat) : Int) from rfl]
        generalize cutS Z (some ((1 : Nat) : Int)) none = Z1 at h1c l1c ⊢
        repeat walk_at "rd"
        refine w_addS (by rw [len_app]; show 1 + X.length + Z1.length ≤ _; omega) ?_
        repeat walk_at "rd"
        refine w_addS (by rw [len_app, len_app]; show 1 + X.length + Z1.length + 1 ≤ _; omega) ?_
        repeat walk_at "rd"
        refine iD (fun c => absurd c (by omega)) (fun _ => ?_)
        repeat walk_at "rd"
        refine w_addS (by rw [len_app, len_app, len_app]; show 1 + X.length + Z1.length + 1 + 1 ≤ _; omega) ?_
        repeat walk_at "rd"
        refine w_lenS (by omega) ?_
        rw [lY]
        repeat walk_at "rd"
        refine w_repS (by decide) (by omega) (by omega) ?_
        have hR := tl_rep "0" 48 (2 - ((dg pp.natAbs).length : Int)) (by decide +kernel)
        have lR := len_of hR
        rw [List.length_replicate] at lR
        generalize repS "0" (2 - ((dg pp.natAbs).length : Int)) = R at hR lR ⊢
        repeat walk_at "rd"
        refine w_addS (by simp only [len_app]; show 1 + X.length + Z1.length + 1 + 1 + R.length ≤ _; omega) ?_
        repeat walk_at "rd"
        refine w_addS (by simp only [len_app]; show 1 + X.length + Z1.length + 1 + 1 + R.length + Y.length ≤ _; omega) ?_
        repeat walk_at "rd"
        refine qq _ ?_
        simp only [TL.tl_append, hX, h1c, hR, hf2]
        rw [show tl (⟨#[c0]⟩ : Str) = [c0] from rfl, tlE, tlP, show (2 - ((dg pp.natAbs).length : Int)).toNat = 2 - (dg pp.natAbs).length by omega, if_neg (show ¬ pp < 0 by omega), hds]
        rfl
    · have eS : shL ds pp = _ := if_neg cA
      rw [eS] at qq
      refine iD (fun c => absurd (.inl c) cA) (fun _ => ?_)
      repeat walk_at "rd"
      refine iD (fun c => absurd (.inr c) cA) (fun _ => ?_)
      repeat walk_at "rd"
      refine iD (fun c => ?_) (fun c => ?_)
      · rw [if_pos c] at qq
        repeat walk_at "rd"
        refine w_repS (by decide) (by omega) (by omega) ?_
        have hR := tl_rep "0" 48 (0 - pp - 1) (by decide +kernel)
        have lR := len_of hR
        rw [List.length_replicate] at lR
        generalize repS "0" (0 - pp - 1) = R at hR lR ⊢
        repeat walk_at "rd"
        refine w_addS (by show 2 + R.length ≤ _; omega) ?_
        repeat walk_at "rd"
        refine w_addS (by simp only [len_app]; show 2 + R.length + Z.length ≤ _; omega) ?_
        repeat walk_at "rd"
        refine qq _ ?_
        simp only [TL.tl_append, hR, hz]
        rw [tl0]
      · rw [if_neg c] at qq
        repeat walk_at "rd"
        refine w_lenS (by omega) ?_
        rw [lz]
        repeat walk_at "rd"
        refine w_repS (by decide) (by omega) (by omega) ?_
        have hR := tl_rep "0" 48 (pp + 1 - (ds.length : Int)) (by decide +kernel)
        have lR := len_of hR
        rw [List.length_replicate] at lR
        generalize repS "0" (pp + 1 - (ds.length : Int)) = R at hR lR ⊢
        repeat walk_at "rd"
        refine w_addS (by omega) ?_
        have hS : tl (Z ++ R) = ds ++ List.replicate (pp + 1 - (ds.length : Int)).toNat 48 := by rw [TL.tl_append, hz, hR]
        have lS : (Z ++ R).length ≤ 1000 := by rw [len_app]; omega
        generalize Z ++ R = S at hS lS ⊢
        generalize ds ++ List.replicate (pp + 1 - (ds.length : Int)).toNat 48 = es at qq hS
        obtain ⟨k, hk⟩ := Int.eq_ofNat_of_zero_le (show 0 ≤ pp + 1 by omega)
        rw [hk, Int.toNat_natCast] at qq
        repeat walk_at "rd"
        refine w_sl ?_
        repeat walk_at "rd"
        refine w_noPart ?_
        refine w_part ?_
        repeat walk_at "rd"
        rw [hk]
        refine w_slS (by omega) ?_
        have h1 := cut_to (k := k) hS
        have l1 := len_cut S none (some (k : Nat))
        generalize cutS S none (some ((k : Nat) : Int)) = A1 at h1 l1 ⊢
        repeat walk_at "rd"
        refine w_addS (by show A1.length + 1 ≤ _; omega) ?_
        repeat walk_at "rd"
        refine w_orT ?_
        refine w_sl ?_
        repeat walk_at "rd"
        refine w_part ?_
        repeat walk_at "rd"
        refine w_noPart ?_
        rw [hk]
        refine w_slS (by omega) ?_
        have h2 := cut_from (k := k) hS
        have l2 := len_cut S (some (k : Nat)) none
        have l3 := len_of h2
        generalize cutS S (some ((k : Nat) : Int)) none = A2 at h2 l2 l3 ⊢
        refine ⟨_, ⟨Nat.le_trans l2 (Nat.le_trans lS (by decide)), rfl⟩, ?_⟩
        by_cases c0 : es.drop k = []
        · rw [if_pos c0] at qq
          rw [l3, c0]
          refine iF ?_
          repeat walk_at "rd"
          refine w_addS (by rw [len_app]; show A1.length + 1 + 1 ≤ _; omega) ?_
          repeat walk_at "rd"
          refine qq _ ?_
          simp only [TL.tl_append, h1]
          rw [tlD, tlZ]
        · rw [if_neg c0] at qq
          have ne : ((A2.length : Int) != 0) = true := by
            rw [bne_iff_ne, l3]
            intro z
            exact c0 (List.length_eq_zero_iff.1 (by omega))
          rw [ne]
          refine iT ?_
          refine w_addS (by rw [len_app]; show A1.length + 1 + A2.length ≤ _; omega) ?_
          repeat walk_at "rd"
          refine qq _ ?_
          simp only [TL.tl_append, h1, h2]
          rw [tlD]
end
end Nu

set_option Elab.async false
set_option linter.all false
set_option maxRecDepth 100000
set_option autoImplicit false
set_option maxHeartbeats 4000000
namespace Nu
open PySem PySem.Spec PyProof.Rows L2 Rd Dg TL PySem.NumText
local macro_rules | `(tactic| walk_at "hp") => `(tactic| first | assumption | (refine same_get ?sm ?_; (case sm => assumption); walk_at "hp"))
local macro_rules | `(tactic| walk_at "rd") => `(tactic| first
  | (with_reducible show Ends.nx _ _ _; with_reducible refine w_nx ?_)
  | with_reducible refine w_rt ?_
  | (with_reducible show Ends.bk _ _ _; with_reducible refine w_bk ?_)
  | (with_reducible show Ends.ct _ _ _; with_reducible refine w_ct ?_)
  | with_reducible refine w_seq ?_
  | with_reducible refine w_next ?_
  | with_reducible refine w_ret ?_
  | with_reducible refine w_ifS ?_
  | with_reducible refine w_asg ?_
  | with_reducible refine w_name ?_
  | with_reducible refine w_par ?_
  | with_reducible refine w_parI ?_
  | with_reducible refine w_ii ?_
  | with_reducible refine w_i1 ?_
  | with_reducible refine w_drop ?_
  | with_reducible refine w_sFld ?_
  | ((with_reducible refine' w_var ?rdh ?_); (case rdh => exact rfl))
  | with_reducible refine w_c ?_
  | with_reducible refine w_op ?_
  | with_reducible refine w_un ?_
  | with_reducible refine w_I0 ?_
  | with_reducible refine w_U ?_
  | with_reducible refine w_bits ?_
  | with_reducible refine w_bitsI ?_
  | with_reducible refine w_tup ?_
  | with_reducible refine w_lst ?_
  | with_reducible refine w_nil ?_
  | with_reducible refine w_cons ?_
  | with_reducible refine w_fld ?_
  | with_reducible refine w_call ?_
  | with_reducible refine w_make ?_
  | with_reducible refine w_gsub ?_
  | with_reducible refine w_int1 ?_
  | with_reducible refine w_intB ?_
  | with_reducible refine w_for ?_
  | with_reducible refine w_rng1 ?_
  | with_reducible refine w_iList ?_
  | with_reducible refine w_iTup ?_
  | with_reducible refine w_makeD ?_
  | with_reducible refine w_nn ?_
  | with_reducible refine w_subB ?_
  | with_reducible refine w_meth ?_
  | with_reducible refine w_cb ?_
  | with_reducible refine w_test ?_
  | with_reducible refine w_B ?_
  | with_reducible refine w_bl ?_
  | with_reducible refine w_andV ?_
  | with_reducible refine w_orV ?_
  | with_reducible refine w_notV ?_
  | with_reducible refine w_and ?_
  | with_reducible refine w_or ?_
  | with_reducible refine w_not ?_
  | with_reducible refine w_if ?_
  | with_reducible refine w_gnil ?_
  | with_reducible refine w_gcons ?_
  | with_reducible refine iT ?_
  | with_reducible refine iF ?_
  | with_reducible refine w_eqI ?_
  | with_reducible refine w_neI ?_
  | with_reducible refine w_eqS ?_
  | with_reducible refine w_eqIS ?_
  | with_reducible refine w_eqSI ?_)

/-- what text_of makes of a number -/
def TextOf (n : Nm) (z : Str) : Prop := match n with
  | .int i => z = Str.ofString (toString i)
  | .fl .nan => z = "nan"
  | .fl (.inf s) => z = (if s < 0 then "-inf" else "inf" : Str)
  | .fl (.fin s t p) => if t = 0 then z = (if s < 0 then "-0.0" else "0.0" : Str) else ∃ pl, PlaceOf (ratT 1 t p) (ratB p) pl ∧ -370 ≤ pl ∧ pl ≤ 370 ∧ tl z = (if s < 0 then [45] else []) ++ shM (ratT 1 t p) (ratB p) pl
/-- the figures that are shown -/
theorem sh_ds {t b p : Int} (b0 : 0 < b) (h : PlaceOf t b p) : ∃ c r, strip0 (dg (shF t b p).toNat) = c :: r ∧ 49 ≤ c ∧ (c :: r).length ≤ 14 ∧ AllDigits (c :: r) ∧ (c :: r).getLast (by simp) ≠ 48 ∧
    ((digitsVal (c :: r) * 10 ^ (14 - (c :: r).length) : Nat) : Int) = shF t b p ∧ 10000000000000 ≤ shF t b p ∧ shF t b p < 100000000000000 := by
  obtain ⟨r0, r1⟩ := rd_rng b0 h
  have f0 : 10000000000000 ≤ shF t b p := by unfold shF; split <;> omega
  have f1 : shF t b p < 100000000000000 := by unfold shF; split <;> omega
  generalize shF t b p = fg at *
  obtain ⟨m, rfl⟩ := Int.eq_ofNat_of_zero_le (show 0 ≤ fg by omega)
  rw [Int.toNat_natCast]
  have hlen : (dg m).length = 14 := dg_len (k := 13) (by omega) (by omega)
  have m0 : 0 < m := by omega
  obtain ⟨kz, hsp, hlast⟩ := strip0_split (dg m)
  have hv := dg_val m
  have ha := dg_all m
  obtain ⟨c, r, e, hc⟩ := dg_head m0
  cases hd : strip0 (dg m) with
  | nil =>
    rw [e] at hd hsp
    rw [hd] at hsp
    cases kz with
    | zero => cases hsp
    | succ k => rw [List.nil_append, List.replicate_succ] at hsp; cases hsp; omega
  | cons c' r' =>
    rw [hd] at hsp
    have lsp := congrArg List.length hsp
    rw [List.length_append, hlen, List.length_replicate] at lsp
    have ek : 14 - (c' :: r').length = kz := by omega
    have hce : c = c' := by rw [e] at hsp; exact (List.cons.inj hsp).1
    refine ⟨c', r', rfl, hce ▸ hc, by omega, fun d hd' => ha d (by rw [hsp]; exact List.mem_append_left _ hd'), ?_, ?_, f0, f1⟩
    · have := hlast (by rw [hd]; simp)
      simp only [hd] at this
      exact this
    · rw [ek, ← val_app, ← hsp, hv]
theorem sh_len {t b p : Int} (b0 : 0 < b) (h : PlaceOf t b p) (l0 : -370 ≤ p) (l1 : p ≤ 370) : (shM t b p).length ≤ 400 := by
  obtain ⟨c, r, e, _, hl, x1, x2, x3, x4⟩ := sh_ds b0 h
  clear x1 x2 x3 x4
  have p0 : -370 ≤ shP t b p ∧ shP t b p ≤ 371 := by unfold shP; split <;> omega
  unfold shM
  rw [e]
  generalize shP t b p = pp at *
  generalize c :: r = ds at *
  have lf : (dg pp.natAbs).length ≤ 3 := dg_le (k := 2) (by omega)
  unfold shL
  split
  · simp only [List.length_append, List.length_take, List.length_drop, List.length_replicate, List.length_cons, List.length_nil]
    split <;> simp only [List.length_cons, List.length_nil] <;> omega
  · split
    · simp only [List.length_append, List.length_replicate, List.length_cons, List.length_nil]
      omega
    · split <;> simp only [List.length_append, List.length_take, List.length_drop, List.length_replicate, List.length_cons, List.length_nil] <;> omega
section
variable {P : Program} {w : World} {K : PySem.W.Frag} {mg : Str → Option Value} {base : Heap} {CF : Addr}
def spText (CF : Addr) : Sp := fun vs H Q _ => ∃ x n, vs = [x] ∧ NmAt CF H x n ∧ ∀ z H', Same H H' → TextOf n z → Q (.str z) H'
theorem sc_text_of : FnScope ["number", "ahead"] ["number"] (defScope s_text_of) := ⟨rfl, rfl, rfl, by decide +kernel, rfl, by decide +kernel, by decide +kernel⟩
theorem ok_text_of (T : AllS K mg CF) (k_Float_init : KnC P w K mg base CX0 2 "Float" CF ["self", "sign", "top", "power"] (spInit CF)) (k_shown : Kn P w K mg base CX0 3 "shown" ["number"] (spShown CF)) : Kn P w K mg base CX0 4 "text_of" ["number"] (spText CF) := by
  refine T.x_text_of.kn fun f fd F => ?_
  refine F.ok sc_text_of (fun vs H Q E h => ?_) (fun cdv A outer s H vs Q E hr h => ?_)
  · obtain ⟨x, n, rfl, _⟩ := h
    rfl
  · obtain ⟨x, n, rfl, hx, q⟩ := h
    refine ⟨_, (pss_cons (ps_if (pt_not (pt_val (pe_callB call_isi (by rfl) T.b_isinstance boot_isinstance (pa_cons (pv 0) (pa_cons (pg "Float" T.g_Float (rref _)) pa_nil))))) (pss_one (ps_ret (pe_callTy call_str_int (by rfl) T.b_str boot_str (pa_cons (pv 0) pa_nil)))) pss_nil)
      (pss_cons (ps_if (pt_cmpR op_eq (pe_fld (pv 0) rfl) pe_str (nomark _)) (pss_one (ps_ret pe_str)) pss_nil)
      (C8.pss_cut (ps_set (i := 1) sc_text_of.nd rfl (Or.inl rfl) (pe_ifExp (pt_cmpR op_lt (pe_fld (pv 0) rfl) pe_int (nomark _)) pe_str pe_str))
      (pss_cons (ps_if (pt_cmpR op_eq (pe_fld (pv 0) rfl) pe_str (nomark _)) (pss_one (ps_ret (pe_op op_add_str (pv 1) pe_str))) pss_nil)
      (pss_cons (ps_if (pt_cmpR op_eq (pe_fld (pv 0) rfl) pe_int (nomark _)) (pss_one (ps_ret (pe_op op_add_str (pv 1) pe_str))) pss_nil)
      (pss_one (ps_ret (pe_op op_add_str (pv 1) (pk k_shown hr (pa_cons (pkC k_Float_init hr (pa_cons pe_int (pa_cons (pe_fld (pv 0) rfl) (pa_cons (pe_fld (pv 0) rfl) pa_nil)))) pa_nil)))))))))), ?_⟩
    cases n with
    | int i =>
      obtain ⟨rfl, hb⟩ := hx
      repeat walk_at "rd"
      refine w_isi (.own CF) (.base (.int i)) T.i_intF ?_
      repeat walk_at "rd"
      refine iT ?_
      repeat walk_at "rd"
      refine ⟨log_ok (by omega), ?_⟩
      exact q _ H (Same.refl H) rfl
    | fl f =>
      obtain ⟨a, rfl, hf, ok⟩ := hx
      obtain ⟨dx, h1⟩ := id hf
      obtain ⟨tt, ty, i1, i2, i3, i4⟩ := says_fl T.toAll h1
      repeat walk_at "rd"
      refine w_isi (.own CF) ty i4 ?_
      repeat walk_at "rd"
      refine iF ?_
      repeat walk_at "rd"
      refine w_fldI h1 T.l_Float T.n_top (flds_t _ _ _) ?_
      repeat walk_at "rd"
      refine w_nan ?_
      repeat walk_at "rd"
      refine iB (fun z => ?_) (fun z => ?_)
      · repeat walk_at "rd"
        have : f = .nan := by
          cases f with
          | nan => rfl
          | inf s => cases z
          | fin s t p => cases z
        subst this
        exact q _ H (Same.refl H) rfl
      · repeat walk_at "rd"
        refine w_cut (Mid := fun σ' H' => H' = H ∧ ∃ X : Str, tl X = (if f.s < 0 then [45] else []) ∧ σ' = [some (.ref a), some (.str X)]) ?_ ?_
        · repeat walk_at "rd"
          refine w_fldI h1 T.l_Float T.n_sign (flds_s _ _ _) ?_
          repeat walk_at "rd"
          refine iD (fun c => ?_) (fun c => ?_)
          · repeat walk_at "rd"
            exact ⟨rfl, _, by rw [if_pos c, tlM], rfl⟩
          · repeat walk_at "rd"
            exact ⟨rfl, _, by rw [if_neg c]; decide +kernel, rfl⟩
        rintro σ' H' ⟨rfl, X, hX, rfl⟩
        have lX : X.length ≤ 1 := by rw [len_of hX]; split <;> simp
        repeat walk_at "rd"
        refine w_fldI h1 T.l_Float T.n_top (flds_t _ _ _) ?_
        repeat walk_at "rd"
        refine w_inf ?_
        cases f with
        | nan => cases z
        | inf s =>
          repeat walk_at "rd"
          refine iT ?_
          repeat walk_at "rd"
          refine w_addS (by show X.length + 3 ≤ _; omega) ?_
          refine q _ H' (Same.refl H') (str_ext ?_)
          rw [TL.tl_append, hX]
          show (if s < 0 then [45] else []) ++ _ = _
          split <;> decide +kernel
        | fin s t p =>
          repeat walk_at "rd"
          refine iF ?_
          repeat walk_at "rd"
          refine w_fldI h1 T.l_Float T.n_top (flds_t _ _ _) ?_
          repeat walk_at "rd"
          refine w_eqI (i := t) (j := 0) ?_
          repeat walk_at "rd"
          refine iD (fun c => ?_) (fun c => ?_)
          · repeat walk_at "rd"
            refine w_addS (by show X.length + 3 ≤ _; omega) ?_
            refine q _ H' (Same.refl H') ?_
            show if t = 0 then _ else _
            rw [if_pos c]
            refine str_ext ?_
            rw [TL.tl_append, hX]
            show (if s < 0 then [45] else []) ++ _ = _
            split <;> decide +kernel
          · repeat walk_at "rd"
            refine w_fldI h1 T.l_Float T.n_top (flds_t _ _ _) ?_
            repeat walk_at "rd"
            refine w_fldI h1 T.l_Float T.n_power (flds_p _ _ _) ?_
            have ok1 : (Fl.fin 1 t p).ok := ⟨.inl rfl, ok.2.1, ok.2.2.1, ok.2.2.2.1, ok.2.2.2.2⟩
            have ag : Arg 1 (.int t) p (.fin 1 t p) := by
              obtain ⟨r, ft⟩ := red_ok ok
              refine .inl ⟨t, rfl, ok.2.1, .inl rfl, ?_, ?_⟩
              · rw [r]; exact ft
              · rw [r]
            repeat walk_at "rd"
            refine u_Float ag fun x1 H1 s1 n1 k1 => ?_
            repeat walk_at "rd"
            refine ⟨x1, t, p, rfl, k1, ok1, by have := ok.2.1; omega, fun pl z H2 s2 hp l0 l1 hz => ?_⟩
            have e := sh_len (ratB_pos p) hp l0 l1
            refine w_addS (by rw [len_of hz]; omega) ?_
            refine q _ H2 (s1.trans s2) ?_
            show if t = 0 then _ else _
            rw [if_neg c]
            refine ⟨pl, hp, l0, l1, ?_⟩
            rw [TL.tl_append, hX, hz]
            rfl
end
end Nu

set_option Elab.async false
set_option linter.all false
set_option maxRecDepth 100000
set_option autoImplicit false
set_option maxHeartbeats 4000000
namespace Nu
open PySem PySem.Spec PyProof.Rows L2 Rd Dg TL PySem.NumText
local macro_rules | `(tactic| walk_at "hp") => `(tactic| first | assumption | (refine same_get ?sm ?_; (case sm => assumption); walk_at "hp"))
local macro_rules | `(tactic| walk_at "rd") => `(tactic| first
  | (with_reducible show Ends.nx _ _ _; with_reducible refine w_nx ?_)
  | with_reducible refine w_rt ?_
  | (with_reducible show Ends.bk _ _ _; with_reducible refine w_bk ?_)
  | (with_reducible show Ends.ct _ _ _; with_reducible refine w_ct ?_)
  | with_reducible refine w_seq ?_
  | with_reducible refine w_next ?_
  | with_reducible refine w_ret ?_
  | with_reducible refine w_ifS ?_
  | with_reducible refine w_asg ?_
  | with_reducible refine w_name ?_
  | with_reducible refine w_par ?_
  | with_reducible refine w_parI ?_
  | with_reducible refine w_ii ?_
  | with_reducible refine w_i1 ?_
  | with_reducible refine w_drop ?_
  | with_reducible refine w_sFld ?_
  | ((with_reducible refine' w_var ?rdh ?_); (case rdh => exact rfl))
  | with_reducible refine w_c ?_
  | with_reducible refine w_op ?_
  | with_reducible refine w_un ?_
  | with_reducible refine w_I0 ?_
  | with_reducible refine w_U ?_
  | with_reducible refine w_bits ?_
  | with_reducible refine w_bitsI ?_
  | with_reducible refine w_tup ?_
  | with_reducible refine w_lst ?_
  | with_reducible refine w_nil ?_
  | with_reducible refine w_cons ?_
  | with_reducible refine w_fld ?_
  | with_reducible refine w_call ?_
  | with_reducible refine w_make ?_
  | with_reducible refine w_gsub ?_
  | with_reducible refine w_int1 ?_
  | with_reducible refine w_intB ?_
  | with_reducible refine w_for ?_
  | with_reducible refine w_rng1 ?_
  | with_reducible refine w_iList ?_
  | with_reducible refine w_iTup ?_
  | with_reducible refine w_makeD ?_
  | with_reducible refine w_nn ?_
  | with_reducible refine w_subB ?_
  | with_reducible refine w_meth ?_
  | with_reducible refine w_cb ?_
  | with_reducible refine w_test ?_
  | with_reducible refine w_B ?_
  | with_reducible refine w_bl ?_
  | with_reducible refine w_andV ?_
  | with_reducible refine w_orV ?_
  | with_reducible refine w_notV ?_
  | with_reducible refine w_and ?_
  | with_reducible refine w_or ?_
  | with_reducible refine w_not ?_
  | with_reducible refine w_if ?_
  | with_reducible refine w_gnil ?_
  | with_reducible refine w_gcons ?_
  | with_reducible refine iT ?_
  | with_reducible refine iF ?_
  | with_reducible refine w_eqI ?_
  | with_reducible refine w_neI ?_
  | with_reducible refine w_eqS ?_
  | with_reducible refine w_eqIS ?_
  | with_reducible refine w_eqSI ?_)

/-! ### the parts of a text that is shown -/
structure Dgs (ds : List Nat) : Prop where
  hd : ∃ c r, ds = c :: r ∧ 49 ≤ c
  len : ds.length ≤ 14
  all : AllDigits ds
  last : ∀ h : ds ≠ [], ds.getLast h ≠ 48
def Frm1 (ds : List Nat) (p : Int) (Mk Fr B Bh : Str) : Prop := Mk = "e" ∧ (p < -4 ∨ 14 ≤ p) ∧ tl B = ds.take 1 ∧ tl Bh = ds.drop 1 ∧ tl Fr = (if p < 0 then 45 else 43) :: (List.replicate (2 - (dg p.natAbs).length) 48 ++ dg p.natAbs)
def Frm2 (ds : List Nat) (p : Int) (Mk Pt B Bh : Str) : Prop := Mk = Str.empty ∧ Pt = "." ∧ -4 ≤ p ∧ p < 0 ∧ tl B = [48] ∧ tl Bh = List.replicate (0 - p - 1).toNat 48 ++ ds
def Frm3 (ds : List Nat) (p : Int) (Mk Pt B Bh : Str) : Prop := Mk = Str.empty ∧ Pt = "." ∧ 0 ≤ p ∧ p < 14 ∧ (tl B).length = (p + 1).toNat ∧ (∃ c r, tl B = c :: r ∧ 49 ≤ c) ∧ (∃ j, j ≤ 15 ∧ tl B ++ tl Bh = ds ++ List.replicate j 48) ∧ tl Bh ≠ [] ∧ (1 < (tl Bh).length → ∀ h : tl Bh ≠ [], (tl Bh).getLast h ≠ 48)
theorem no_of {cs : List Nat} (h : AllDigits cs) {s : Nat} (hs : s < 48 ∨ 57 < s) : s ∉ cs := fun m => by
  have := h s m
  omega
theorem all_app {a b : List Nat} (h : AllDigits a) (h' : AllDigits b) : AllDigits (a ++ b) := fun c hc => (List.mem_append.1 hc).elim (h c) (h' c)
theorem all_rep (k : Nat) : AllDigits (List.replicate k 48) := fun c hc => by
  rw [List.eq_of_mem_replicate hc]
  omega
theorem tl_mk (a : List Nat) : tl (⟨a.toArray⟩ : Str) = a := by simp
theorem shape {z : Str} {ds : List Nat} {p : Int} (D : Dgs ds) (hz : tl z = shL ds p) : ∃ Fg Mk Fr B Pt Bh : Str, Txt.partition z "e" = (Fg, Mk, Fr) ∧ Txt.partition Fg "." = (B, Pt, Bh) ∧ AllDigits (tl B) ∧ AllDigits (tl Bh) ∧ tl B ≠ [] ∧
    ((Pt = "." ∧ tl Bh ≠ []) ∨ (Pt = Str.empty ∧ Bh = Str.empty)) ∧ (Frm1 ds p Mk Fr B Bh ∨ Frm2 ds p Mk Pt B Bh ∨ Frm3 ds p Mk Pt B Bh) := by
  obtain ⟨c, r, hd, hc⟩ := D.hd
  have ha := D.all
  unfold shL at hz
  split at hz
  · rename_i hp
    subst hd
    have e1 : tl z = (c :: (if 1 < (c :: r).length then [46] else []) ++ r) ++ 101 :: ((if p < 0 then 45 else 43) :: (List.replicate (2 - (dg p.natAbs).length) 48 ++ dg p.natAbs)) := by
      rw [hz]
      simp
    have n101 : 101 ∉ (c :: (if 1 < (c :: r).length then [46] else []) ++ r) := by
      have h1 := no_of ha (s := 101) (by omega)
      intro m
      simp only [List.cons_append, List.mem_cons, List.mem_append] at m h1
      rcases m with m | m | m
      · exact h1 (.inl m)
      · split at m
        · simp at m
        · cases m
      · exact h1 (.inr m)
    have p1 := part_at tlE e1 n101
    have n46 : 46 ∉ [c] := fun m => no_of ha (s := 46) (by omega) (by simp at m; simp [m])
    cases r with
    | nil =>
      refine ⟨_, _, _, _, _, _, p1, part_no tlD (by rw [tl_mk]; simpa using n46), ?_, ?_, ?_, .inr ⟨rfl, rfl⟩, .inl ⟨rfl, hp, ?_, rfl, ?_⟩⟩
      · rw [tl_mk]
        simpa using ha
      · exact fun c hc => by cases hc
      · rw [tl_mk]
        simp
      · rw [tl_mk]
        simp
      · rw [tl_mk]
    | cons d r =>
      have e2 : tl (⟨(c :: (if 1 < (c :: d :: r).length then [46] else []) ++ (d :: r)).toArray⟩ : Str) = [c] ++ 46 :: (d :: r) := by
        rw [tl_mk, if_pos (by simp)]
        rfl
      refine ⟨_, _, _, _, _, _, p1, part_at tlD e2 n46, ?_, ?_, ?_, .inl ⟨rfl, ?_⟩, .inl ⟨rfl, hp, ?_, ?_, ?_⟩⟩
      · rw [tl_mk]
        exact fun x hx => ha x (by simp at hx; simp [hx])
      · rw [tl_mk]
        exact fun x hx => ha x (List.mem_cons_of_mem _ hx)
      · rw [tl_mk]
        simp
      · rw [tl_mk]
        simp
      · rw [tl_mk]
        rfl
      · rw [tl_mk]
        rfl
      · rw [tl_mk]
  · rename_i hp
    split at hz
    · rename_i h0
      have e0 : tl z = [48] ++ 46 :: (List.replicate (0 - p - 1).toNat 48 ++ ds) := by
        rw [hz]
        simp
      have hrd : AllDigits (List.replicate (0 - p - 1).toNat 48 ++ ds) := all_app (all_rep _) ha
      have n101 : 101 ∉ tl z := by
        rw [e0]
        intro m
        simp only [List.singleton_append, List.mem_cons] at m
        rcases m with m | m | m
        · omega
        · omega
        · exact no_of hrd (by omega) m
      have p1 := part_no tlE n101
      refine ⟨_, _, _, _, _, _, p1, part_at tlD e0 (by simp), ?_, ?_, ?_, .inl ⟨rfl, ?_⟩, .inr (.inl ⟨rfl, rfl, by omega, h0, ?_, ?_⟩)⟩
      · rw [tl_mk]
        intro x hx
        simp at hx
        omega
      · rw [tl_mk]
        exact hrd
      · rw [tl_mk]
        simp
      · rw [tl_mk, hd]
        simp
      · rw [tl_mk]
      · rw [tl_mk]
    · rename_i h0
      obtain ⟨k, hk⟩ := Int.eq_ofNat_of_zero_le (show 0 ≤ p + 1 by omega)
      rw [hk, Int.toNat_natCast] at hz
      have ej : ((k : Int) - (ds.length : Int)).toNat = k - ds.length := by omega
      rw [ej] at hz
      have les : (ds ++ List.replicate (k - ds.length) 48).length = max k ds.length := by
        rw [List.length_append, List.length_replicate]
        omega
      have hes : AllDigits (ds ++ List.replicate (k - ds.length) 48) := all_app ha (all_rep _)
      have hhd : ∃ r', ds ++ List.replicate (k - ds.length) 48 = c :: r' := ⟨_, by rw [hd]; rfl⟩
      have hlast := D.last
      generalize hge : ds ++ List.replicate (k - ds.length) 48 = es at *
      have hta := List.take_append_drop k es
      have ltk : (es.take k).length = k := by
        rw [List.length_take]
        omega
      have htk : AllDigits (es.take k) := fun x hx => hes x (List.mem_of_mem_take hx)
      have hdr : AllDigits (es.drop k) := fun x hx => hes x (List.mem_of_mem_drop hx)
      have k0 : 0 < k := by omega
      have hB : ∃ r', es.take k = c :: r' := by
        obtain ⟨r', e⟩ := hhd
        obtain ⟨k', rfl⟩ : ∃ k', k = k' + 1 := ⟨k - 1, by omega⟩
        rw [e]
        exact ⟨_, rfl⟩
      have n46 : 46 ∉ es.take k := no_of htk (by omega)
      generalize hbh : (if es.drop k = [] then [48] else es.drop k) = bh at hz
      have hbd : AllDigits bh := by
        rw [← hbh]
        split
        · intro x hx
          simp at hx
          omega
        · exact hdr
      have e0 : tl z = es.take k ++ 46 :: bh := by
        rw [hz]
        simp
      have n101 : 101 ∉ tl z := by
        rw [e0]
        intro m
        rcases List.mem_append.1 m with m | m
        · exact no_of htk (by omega) m
        · rcases List.mem_cons.1 m with m | m
          · omega
          · exact no_of hbd (by omega) m
      have p1 := part_no tlE n101
      have bne : bh ≠ [] := by
        rw [← hbh]
        split
        · simp
        · assumption
      refine ⟨_, _, _, _, _, _, p1, part_at tlD e0 n46, ?_, ?_, ?_, .inl ⟨rfl, ?_⟩, .inr (.inr ⟨rfl, rfl, by omega, by omega, ?_, ?_, ?_, ?_, ?_⟩)⟩
      · rw [tl_mk]
        exact htk
      · rw [tl_mk]
        exact hbd
      · rw [tl_mk]
        obtain ⟨r', e⟩ := hB
        rw [e]
        simp
      · rw [tl_mk]
        exact bne
      · rw [tl_mk, ltk]
        omega
      · rw [tl_mk]
        obtain ⟨r', e⟩ := hB
        exact ⟨c, r', e, hc⟩
      · rw [tl_mk, tl_mk, ← hbh]
        have hdl := D.len
        split
        · rename_i hn
          have : es.take k = es := by
            rw [hn, List.append_nil] at hta
            exact hta
          rw [this, ← hge]
          refine ⟨k - ds.length + 1, by omega, ?_⟩
          rw [List.replicate_succ', List.append_assoc]
        · rw [hta, ← hge]
          exact ⟨_, by omega, rfl⟩
      · rw [tl_mk]
        exact bne
      · rw [tl_mk]
        intro h1 h2
        have hne : es.drop k ≠ [] := fun z => by
          rw [if_pos z] at hbh
          rw [← hbh] at h1
          simp at h1
        rw [if_neg hne] at hbh
        subst hbh
        have hkl : k < ds.length := by
          have : 0 < (es.drop k).length := List.length_pos_iff.2 hne
          rw [List.length_drop] at this
          omega
        have ees : es = ds := by
          rw [← hge, show k - ds.length = 0 by omega]
          simp
        subst ees
        rw [List.getLast_drop]
        exact hlast _
end Nu

set_option Elab.async false
set_option linter.all false
set_option maxRecDepth 100000
set_option autoImplicit false
set_option maxHeartbeats 4000000
/-! texts in a walk, further -/
namespace Rd
open PySem PySem.Spec PyProof.Rows L2 Dg
theorem cut_neg1 {z : Str} {l : List Nat} (h : TL.tl z = l) : TL.tl (cutS z (some (-1)) none) = l.drop (l.length - 1) := by
  rw [tl_cut, h, HT.sIx_none]
  have e : HT.sIx l.length 0 (some (-1)) = l.length - 1 := by
    show (if (-1 : Int) < 0 then ((-1 : Int) + (l.length : Int)).toNat else min (-1 : Int).toNat l.length) = _
    rw [if_pos (by decide)]
    omega
  rw [e, List.take_of_length_le (by rw [List.length_drop]; exact Nat.le_refl _)]
theorem cut_toneg1 {z : Str} {l : List Nat} (h : TL.tl z = l) : TL.tl (cutS z none (some (-1))) = l.dropLast := by
  rw [tl_cut, h, HT.sIx_none]
  have e : HT.sIx l.length l.length (some (-1)) = l.length - 1 := by
    show (if (-1 : Int) < 0 then ((-1 : Int) + (l.length : Int)).toNat else min (-1 : Int).toNat l.length) = _
    rw [if_pos (by decide)]
    omega
  rw [e, List.drop_zero, Nat.sub_zero, List.dropLast_eq_take]
theorem drop_last {l : List Nat} (h : l ≠ []) : l.drop (l.length - 1) = [l.getLast h] := by
  have e := List.dropLast_concat_getLast h
  conv => lhs; rw [← e]
  have hl : (l.dropLast ++ [l.getLast h]).length - 1 = l.dropLast.length := by simp
  rw [hl, List.drop_left]
theorem atlast {l : List Nat} (h : l ≠ []) : atI l (-1) = some (l.getLast h) := by
  have hp := List.length_pos_iff.2 h
  have e : ixN l.length (-1) = some (l.length - 1) := by
    unfold ixN
    rw [if_neg (by decide), if_pos (by omega)]
    congr 1
    omega
  unfold atI
  rw [e]
  show l[l.length - 1]? = _
  rw [List.getLast_eq_getElem]
  exact List.getElem?_eq_getElem _
theorem val_rep (k : Nat) (cs : List Nat) : PySem.NumText.digitsVal (List.replicate k 48 ++ cs) = PySem.NumText.digitsVal cs := by
  induction k with
  | zero => rfl
  | succ k ih => rw [List.replicate_succ, List.cons_append]; exact ih
theorem text_int {z : Str} {cs : List Nat} (h : TL.tl z = cs) (ha : PySem.NumText.AllDigits cs) (hn : cs ≠ []) (hl : cs.length ≤ 640) : PySem.intText? z = some ((PySem.NumText.digitsVal cs : Nat) : Int) ∧ z.length ≤ 640 := by
  have hz := len_of h
  subst h
  exact ⟨PySem.intText_digits ha hn (by omega), by omega⟩
theorem drop_zeros (k : Nat) {c : Nat} {r : List Nat} (h : c ≠ 48) : (List.replicate k 48 ++ c :: r).dropWhile (· == 48) = c :: r := by
  induction k with
  | zero =>
    have hn : (c == 48) = false := by simpa using h
    rw [List.replicate_zero, List.nil_append, List.dropWhile_cons, hn]
    rfl
  | succ k ih => rw [List.replicate_succ, List.cons_append, List.dropWhile_cons, if_pos (by decide), ih]
theorem part_len (x y : Str) : (Txt.partition x y).1.length ≤ x.length := by
  unfold Txt.partition
  split
  · show (x.cps.extract 0 _).size ≤ x.cps.size
    rw [Array.size_extract]
    omega
  · exact Nat.le_refl _
def rEqNilT (K : PySem.W.Frag) : R2 := fun x y H Q => ∃ l b xs, x = .ref l ∧ y = .ref b ∧ SqL K H l xs ∧ SqL K H b [] ∧ Q (.bl xs.isEmpty) H
theorem op_eqNilT {X : Cx} (hu : X.A.units + 64 < cLine) : OpR X (compareOp .Eq) (rEqNilT X.K) := by
  intro pins s σ H x y v u Q I rx ry h
  obtain ⟨l, b, xs, rfl, rfl, hl, hb, q⟩ := h
  cases rx
  cases ry
  obtain ⟨its, r, e, z⟩ := I.list hl
  obtain ⟨its2, r2, e2, z2⟩ := I.list hb
  have l1 := r.length
  have l2 := r2.length
  have z0 : its2 = [] := List.length_eq_zero_iff.1 (by rw [← l2]; rfl)
  subst z0
  have go : ∀ k, k = xs.isEmpty → SeqAt.RcAt X.A s (.ref l) (.ref b) k → wpAny (model X.prog X.w) X.A (compareOp .Eq (.ref l) (.ref b)) (EP X pins σ Q) X.xe s := fun k hk h => by
    refine h _ _ _ _ ?_
    rw [hk]
    exact ⟨.bl _, H, I, rfl, q⟩
  cases xs with
  | nil =>
    have z1 : its = [] := List.length_eq_zero_iff.1 (by rw [← l1]; rfl)
    subst z1
    refine go true rfl ?_
    exact SeqAt.RcAt.lists (e := fun _ => true) e.isList e2.isList rfl (by omega) (fun j h1 h2 => absurd h1 (by simp))
  | cons x xs =>
    refine go false rfl ?_
    refine SeqAt.RcAt.lists_lengths e.isList e2.isList ?_ (by omega)
    cases its with
    | nil => cases l1
    | cons a as => rfl
theorem ix_tupT {X : Cx} {K : PySem.W.Frag} (hk : X.K = K := by rfl) : IxR X (rIxT K) := hk ▸ ix_tup
end Rd

set_option Elab.async false
set_option linter.all false
set_option maxRecDepth 100000
set_option autoImplicit false
set_option maxHeartbeats 4000000
set_option pp.maxSteps 900
namespace Nu
open PySem PySem.Spec PyProof.Rows L2 Rd Dg TL PySem.NumText
local macro_rules | `(tactic| walk_at "hp") => `(tactic| first | assumption | (refine same_get ?sm ?_; (case sm => assumption); walk_at "hp"))
local macro_rules | `(tactic| walk_at "rd") => `(tactic| first
  | (with_reducible show Ends.nx _ _ _; with_reducible refine w_nx ?_)
  | with_reducible refine w_rt ?_
  | (with_reducible show Ends.bk _ _ _; with_reducible refine w_bk ?_)
  | (with_reducible show Ends.ct _ _ _; with_reducible refine w_ct ?_)
  | with_reducible refine w_seq ?_
  | with_reducible refine w_next ?_
  | with_reducible refine w_ret ?_
  | with_reducible refine w_ifS ?_
  | with_reducible refine w_asg ?_
  | with_reducible refine w_name ?_
  | with_reducible refine w_par ?_
  | with_reducible refine w_parI ?_
  | with_reducible refine w_ii ?_
  | with_reducible refine w_i1 ?_
  | with_reducible refine w_drop ?_
  | with_reducible refine w_sFld ?_
  | ((with_reducible refine' w_var ?rdh ?_); (case rdh => exact rfl))
  | with_reducible refine w_c ?_
  | with_reducible refine w_op ?_
  | with_reducible refine w_un ?_
  | with_reducible refine w_I0 ?_
  | with_reducible refine w_U ?_
  | with_reducible refine w_bits ?_
  | with_reducible refine w_bitsI ?_
  | with_reducible refine w_tup ?_
  | with_reducible refine w_lst ?_
  | with_reducible refine w_nil ?_
  | with_reducible refine w_cons ?_
  | with_reducible refine w_fld ?_
  | with_reducible refine w_call ?_
  | with_reducible refine w_make ?_
  | with_reducible refine w_gsub ?_
  | with_reducible refine w_int1 ?_
  | with_reducible refine w_intB ?_
  | with_reducible refine w_for ?_
  | with_reducible refine w_rng1 ?_
  | with_reducible refine w_iList ?_
  | with_reducible refine w_iTup ?_
  | with_reducible refine w_makeD ?_
  | with_reducible refine w_nn ?_
  | with_reducible refine w_subB ?_
  | with_reducible refine w_meth ?_
  | with_reducible refine w_cb ?_
  | with_reducible refine w_test ?_
  | with_reducible refine w_B ?_
  | with_reducible refine w_bl ?_
  | with_reducible refine w_andV ?_
  | with_reducible refine w_orV ?_
  | with_reducible refine w_notV ?_
  | with_reducible refine w_and ?_
  | with_reducible refine w_or ?_
  | with_reducible refine w_not ?_
  | with_reducible refine w_if ?_
  | with_reducible refine w_gnil ?_
  | with_reducible refine w_gcons ?_
  | with_reducible refine iT ?_
  | with_reducible refine iF ?_
  | with_reducible refine w_eqI ?_
  | with_reducible refine w_neI ?_
  | with_reducible refine w_eqS ?_
  | with_reducible refine w_eqIS ?_
  | with_reducible refine w_eqSI ?_)

section
variable {P : Program} {w : World} {K : PySem.W.Frag} {mg : Str → Option Value} {base : Heap} {CF : Addr}
def spParts : Sp := fun vs H Q _ => ∃ z ds p, vs = [.str z] ∧ Dgs ds ∧ tl z = shL ds p ∧ -372 ≤ p ∧ p ≤ 372 ∧ z.length ≤ 1000 ∧ ∀ q y j H', Same H H' → j ≤ 15 → tl y = ds ++ List.replicate j 48 → H' q = some (.tup [.str y, .int p]) → Q (.ref q) H'
theorem sc_law_parts : FnScope ["text", "figures", "mark", "far", "before", "point", "behind", "signs", "sign", "place", "is_formed", "number"] ["text"] (defScope s_law_parts) := ⟨rfl, rfl, rfl, by decide +kernel, rfl, by decide +kernel, by decide +kernel⟩
theorem ok_parts (T : AllS K mg CF) : Kn P w K mg base CX0 1 "_law_parts" ["text"] spParts := by
  refine T.x_parts.kn fun f fd F => ?_
  refine F.ok sc_law_parts (fun vs H Q E h => ?_) (fun cdv A outer s H vs Q E hr h => ?_)
  · obtain ⟨z, ds, p, rfl, _⟩ := h
    rfl
  · obtain ⟨z, ds, p, rfl, D, hz, p0, p1, lz, q⟩ := h
    refine ⟨_, (pss_cons (ps_asg (pe_partition (pv 0) pe_str) (pg_tup (by rfl) (pgs_cons (pg_name (i := 1) sc_law_parts.nd rfl (Or.inl rfl)) (pgs_cons (pg_name (i := 2) sc_law_parts.nd rfl (Or.inl rfl)) (pgs_cons (pg_name (i := 3) sc_law_parts.nd rfl (Or.inl rfl)) pgs_nil)))))
      (pss_cons (ps_asg (pe_partition (pv 1) pe_str) (pg_tup (by rfl) (pgs_cons (pg_name (i := 4) sc_law_parts.nd rfl (Or.inl rfl)) (pgs_cons (pg_name (i := 5) sc_law_parts.nd rfl (Or.inl rfl)) (pgs_cons (pg_name (i := 6) sc_law_parts.nd rfl (Or.inl rfl)) pgs_nil)))))
      (pss_cons (ps_set (i := 7) sc_law_parts.nd rfl (Or.inl rfl) (pe_op op_add_str (pv 4) (pv 6)))
      (C8.pss_cut (ps_if (PW.pt (pw_or (pt_cmpR (op_neNil hr.units64S) (pe_lc (own := [("sign", 8)]) (g := (gName 8)) (tt := _) rfl sc_law_parts.nd (pi_str (pv 7)) (blkOk_by (N := ["text", "figures", "mark", "far", "before", "point", "behind", "signs", "sign", "place", "is_formed", "number"]) (sc := defScope s_law_parts) (by decide +kernel)) (fun _ _ _ _ _ => (pg_name (i := 8) sc_law_parts.nd rfl (Or.inl rfl))) (fun _ _ _ _ _ => pts_one (pt_cmpR op_notInS (pv 8) pe_str rfl)) (fun _ _ _ _ _ => (pv 8))) (pe_lst pa_nil) (nomark _)) (pw_or (pt_cmpR op_eq (pv 4) pe_str (nomark _)) (pw_or1 (pt_cmpR op_ne (pe_cmpR op_ne (pv 5) pe_str (nomark _)) (pe_cmpR op_ne (pv 6) pe_str (nomark _)) (nomark _)))))) (pss_one (ps_ret pe_non)) pss_nil)
      (pss_cons (ps_if (pt_cmpR op_eq (pv 2) pe_str (nomark _)) (pss_cons (ps_set (i := 9) sc_law_parts.nd rfl (Or.inl rfl) (pe_op op_sub (pe_callB call_len_str (by rfl) T.b_len boot_len (pa_cons (pv 4) pa_nil)) pe_int))
      (pss_cons (ps_if (pt_cmpR op_eq (pv 4) pe_str (nomark _)) (pss_one (ps_set (i := 9) sc_law_parts.nd rfl (Or.inl rfl) (pe_op op_sub (pe_un un_neg pe_int) (pe_op op_sub (pe_callB call_len_str (by rfl) T.b_len boot_len (pa_cons (pv 6) pa_nil)) (pe_callB call_len_str (by rfl) T.b_len boot_len (pa_cons (pe_bm PySem.F.plainAttrs_str PySem.F.slot_str_lstrip PySem.F.type_str_lstrip mt_lstripChars (pv 6) (pa_cons pe_str pa_nil)) pa_nil)))))) pss_nil)
      (pss_cons (ps_set (i := 10) sc_law_parts.nd rfl (Or.inl rfl) (pe_and (pe_cmpR op_ne (pv 5) pe_str (nomark _)) (pe_and (pe_or (pe_cmpR op_eq (pv 4) pe_str (nomark _)) (pe_one (pe_cmpR op_ne (pe_ix ix_str (pv 4) pe_int (fun _ _ => rfl)) pe_str (nomark _)))) (pe_one (pe_chain op_lt op_lt (pe_un un_neg pe_int) (pv 9) pe_int)))))
      (pss_cons (ps_if (PW.pt (pw_and (pt_cmpR op_gt (pe_callB call_len_str (by rfl) T.b_len boot_len (pa_cons (pv 6) pa_nil)) pe_int (nomark _)) (pw_and1 (pt_cmpR op_eq (pe_ix ix_str (pv 6) (pe_un un_neg pe_int) (fun _ _ => rfl)) pe_str (nomark _))))) (pss_one (ps_ret pe_non)) pss_nil)
      (pss_one (ps_ret (pe_ifExp (pt_val (pv 10)) (pe_tup (pa_cons (pe_bm PySem.F.plainAttrs_str PySem.F.slot_str_lstrip PySem.F.type_str_lstrip mt_lstripChars (pv 7) (pa_cons pe_str pa_nil)) (pa_cons (pv 9) pa_nil))) pe_non))))))) pss_nil)
      (pss_cons (ps_set (i := 11) sc_law_parts.nd rfl (Or.inl rfl) (pe_slice sl_str (pv 3) (po_some pe_int) po_none))
      (pss_cons (ps_set (i := 10) sc_law_parts.nd rfl (Or.inl rfl) (pe_and (pe_cmpR op_eq (pe_callB call_len_str (by rfl) T.b_len boot_len (pa_cons (pv 4) pa_nil)) pe_int (nomark _)) (pe_and (pe_cmpR op_ne (pv 4) pe_str (nomark _)) (pe_and (pe_cmpR op_in_seq (pe_slice sl_str (pv 3) po_none (po_some pe_int)) (pe_tup (pa_cons pe_str (pa_cons pe_str pa_nil))) rfl) (pe_one (pe_cmpR op_ge (pe_callB call_len_str (by rfl) T.b_len boot_len (pa_cons (pv 11) pa_nil)) pe_int (nomark _)))))))
      (pss_cons (ps_if (PW.pt (pw_or (pt_not (pt_val (pv 10))) (pw_or (pt_cmpR op_eq (pe_slice sl_str (pv 6) (po_some (pe_un un_neg pe_int)) po_none) pe_str (nomark _)) (pw_or1 (PW.pt (pw_and (pt_cmpR op_gt (pe_callB call_len_str (by rfl) T.b_len boot_len (pa_cons (pv 11) pa_nil)) pe_int (nomark _)) (pw_and1 (pt_cmpR op_eq (pe_ix ix_str (pv 11) pe_int (fun _ _ => rfl)) pe_str (nomark _))))))))) (pss_one (ps_ret pe_non)) pss_nil)
      (pss_cons (ps_set (i := 9) sc_law_parts.nd rfl (Or.inl rfl) (pe_op op_mulX (pe_callTy call_int_str (by rfl) T.b_int boot_int (pa_cons (pv 11) pa_nil)) (pe_ifExp (pt_cmpR op_eq (pe_ix ix_str (pv 3) pe_int (fun _ _ => rfl)) pe_str (nomark _)) pe_int (pe_un un_neg pe_int))))
      (pss_one (ps_ret (pe_ifExp (PW.pt (pw_or (pt_cmpR op_lt (pv 9) (pe_un un_neg pe_int) (nomark _)) (pw_or1 (pt_cmpR op_gt (pv 9) pe_int (nomark _))))) (pe_tup (pa_cons (pv 7) (pa_cons (pv 9) pa_nil))) pe_non)))))))))))), ?_⟩
    obtain ⟨Fg, Mk, Fr, B, Pt, Bh, e1, e2, aB, aH, nB, hs, hf⟩ := shape D hz
    repeat walk_at "rd"
    refine w_tM1 ?_
    repeat walk_at "rd"
    refine ⟨⟨_, rfl⟩, ?_⟩
    repeat walk_at "rd"
    refine ⟨z, "e", rfl, rfl, by decide, Nat.le_trans lz (by decide), fun q1 n1 => ?_⟩
    rw [e1]
    have s1 := same_upd (o := .tup [.str Fg, .str Mk, .str Fr]) n1
    have h1 := upd_same (H := H) (a := q1) (o := .tup [.str Fg, .str Mk, .str Fr])
    generalize upd H q1 (.tup [.str Fg, .str Mk, .str Fr]) = H1 at s1 h1 ⊢
    refine w_gtup h1 rfl ?_
    repeat walk_at "rd"
    refine w_tM1 ?_
    repeat walk_at "rd"
    refine ⟨⟨_, rfl⟩, ?_⟩
    repeat walk_at "rd"
    have lFg : Fg.length ≤ 1000 := by
      have := part_len z "e"
      rw [e1] at this
      exact Nat.le_trans this lz
    refine ⟨Fg, ".", rfl, rfl, by decide, Nat.le_trans lFg (by decide), fun q2 n2 => ?_⟩
    rw [e2]
    have s2 := same_upd (o := .tup [.str B, .str Pt, .str Bh]) n2
    have h2 := upd_same (H := H1) (a := q2) (o := .tup [.str B, .str Pt, .str Bh])
    generalize upd H1 q2 (.tup [.str B, .str Pt, .str Bh]) = H2 at s2 h2 ⊢
    refine w_gtup h2 rfl ?_
    repeat walk_at "rd"
    have lBH : B.length + Bh.length ≤ 1000 := by
      have dl := D.len
      rcases hf with ⟨_, _, h, h', _⟩ | ⟨_, _, _, _, h, h'⟩ | ⟨_, _, _, _, _, _, ⟨j, hj, h⟩, _, _⟩
      · have a := len_of h
        have b := len_of h'
        rw [List.length_take] at a
        rw [List.length_drop] at b
        omega
      · have a := len_of h
        have b := len_of h'
        rw [List.length_append, List.length_replicate] at b
        rw [List.length_cons, List.length_nil] at a
        omega
      · have a := congrArg List.length h
        rw [List.length_append, List.length_append, List.length_replicate, tl_len, tl_len] at a
        omega
    refine w_addS (by omega) ?_
    repeat walk_at "rd"
    refine w_cut (Mid := fun σ' H' => Same H2 H' ∧ σ' = [some (.str z), some (.str Fg), some (.str Mk), some (.str Fr), some (.str B), some (.str Pt), some (.str Bh), some (.str (B ++ Bh)), none, none, none, none]) ?_ ?_
    · repeat walk_at "rd"
      refine w_lcS ?_
      repeat walk_at "rd"
      refine w_iStr ?_
      repeat walk_at "rd"
      refine ⟨_, rfl, fun Dl nD => ?_⟩
      refine lc_it (walk_str _) (fun i H' => Same H2 H' ∧ H' Dl = some (.lst [])) ⟨same_upd nD, upd_same⟩ (fun _ _ _ _ => trivial) ?_ ?_
      · rintro i x Ha Hb hi ⟨sa, ha⟩ ⟨rfl, c, hc, rfl⟩
        repeat walk_at "rd"
        refine ⟨rfl, ?_⟩
        repeat walk_at "rd"
        refine w_notInS ?_
        have : c ∈ tl ("0123456789" : Str) := by
          have h1 := List.mem_of_getElem? hc
          rw [TL.tl_append] at h1
          have h2 := all_app aB aH c h1
          rw [show tl ("0123456789" : Str) = [48, 49, 50, 51, 52, 53, 54, 55, 56, 57] by decide +kernel]
          simp only [List.mem_cons, List.not_mem_nil, or_false]
          omega
        rw [decide_eq_true this]
        repeat walk_at "rd"
        exact ⟨sa, ha⟩
      rintro H3 ⟨s3, hD⟩
      repeat walk_at "rd"
      refine w_lstI (xs := []) (by decide) fun l4 H4 s4 n4 h4 => ?_
      refine w_neNil (SqL.of (s4 _ _ hD)) h4 ?_
      repeat walk_at "rd"
      refine iF ?_
      repeat walk_at "rd"
      refine iD (fun c => absurd c fun e => nB (by rw [e]; decide +kernel)) (fun _ => ?_)
      repeat walk_at "rd"
      refine w_neS ?_
      repeat walk_at "rd"
      refine w_neS ?_
      repeat walk_at "rd"
      refine w_neB ?_
      have hpb : (!decide (Pt = Str.ofString "")) = (!decide (Bh = Str.ofString "")) := by
        rcases hs with ⟨rfl, h⟩ | ⟨rfl, rfl⟩
        · rw [decide_eq_false (by decide +kernel), decide_eq_false (fun e => h (by rw [e]; decide +kernel))]
        · rfl
      rw [hpb, decide_eq_true rfl]
      repeat walk_at "rd"
      refine iF ?_
      repeat walk_at "rd"
      exact ⟨s3.trans s4, rfl⟩
    rintro σ' H4 ⟨s4, rfl⟩
    have s04 := (s1.trans s2).trans s4
    have q : ∀ q y j H', Same H4 H' → j ≤ 15 → tl y = ds ++ List.replicate j 48 → H' q = some (.tup [.str y, .int p]) → Q (.ref q) H' := fun q0 y j H' s => q q0 y j H' (s04.trans s)
    clear s1 s2 s4 s04 h1 h2 n1 n2 e1 e2
    repeat walk_at "rd"
    rcases hf with hf | hf | hf
    · obtain ⟨rfl, hp, hB, hH, hF⟩ := hf
      obtain ⟨c, r, hd, hc⟩ := D.hd
      have n0 : 0 < p.natAbs := by omega
      have lf : (dg p.natAbs).length ≤ 3 := dg_le (k := 2) (by omega)
      have lf0 := dg_pos p.natAbs
      have hc9 := D.all c (by rw [hd]; exact List.mem_cons_self)
      rw [hd] at hB hH
      have hB : tl B = [c] := hB
      have hH : tl Bh = r := hH
      have lB : B.length = 1 := len_of hB
      have lFr := len_of hF
      have ldr := D.len
      have lH := len_of hH
      rw [hd] at ldr
      rw [List.length_cons] at ldr
      rw [List.length_cons, List.length_append, List.length_replicate] at lFr
      refine iD (fun c => absurd c (by decide +kernel)) (fun _ => ?_)
      repeat walk_at "rd"
      refine w_sl ?_
      repeat walk_at "rd"
      refine w_part ?_
      repeat walk_at "rd"
      refine w_noPart ?_
      refine w_slS (by omega) ?_
      have hN : tl (cutS Fr (some 1) none) = List.replicate (2 - (dg p.natAbs).length) 48 ++ dg p.natAbs := cut_from (k := 1) hF
      generalize cutS Fr (some 1) none = N at hN ⊢
      have lN := len_of hN
      rw [List.length_append, List.length_replicate] at lN
      repeat walk_at "rd"
      refine w_lenS (by omega) ?_
      repeat walk_at "rd"
      refine iD (fun _ => ?_) (fun z => absurd (by rw [lB]; rfl) z)
      repeat walk_at "rd"
      refine w_neS ?_
      refine ⟨_, rfl, ?_⟩
      refine iN (fun _ => ?_) (fun z => ?_)
      · repeat walk_at "rd"
        refine w_sl ?_
        repeat walk_at "rd"
        refine w_noPart ?_
        refine w_part ?_
        repeat walk_at "rd"
        refine w_slS (by omega) ?_
        have hS1 : tl (cutS Fr none (some 1)) = [if p < 0 then 45 else 43] := cut_to (k := 1) hF
        generalize cutS Fr none (some 1) = S1 at hS1 ⊢
        repeat walk_at "rd"
        refine w_tup2 fun a5 H5 s5 n5 h5 => ?_
        refine w_in h5 rfl rfl ?_
        have hin : inV (.str S1) [.str "+", .str "-"] = true := by
          have : S1 = (if p < 0 then "-" else "+" : Str) := str_ext (by rw [hS1]; split <;> decide +kernel)
          rw [this]
          split <;> decide +kernel
        rw [hin]
        refine ⟨_, rfl, ?_⟩
        refine iT ?_
        repeat walk_at "rd"
        refine w_lenS (by omega) ?_
        repeat walk_at "rd"
        rw [decide_eq_true (show (2 : Int) ≤ (N.length : Int) by omega)]
        repeat walk_at "rd"
        refine iF ?_
        repeat walk_at "rd"
        refine w_sl ?_
        repeat walk_at "rd"
        refine w_part ?_
        repeat walk_at "rd"
        refine w_noPart ?_
        refine w_slS (by omega) ?_
        have hE : tl (cutS Bh (some (-1)) none) = r.drop (r.length - 1) := cut_neg1 hH
        generalize cutS Bh (some (-1)) none = E1 at hE ⊢
        repeat walk_at "rd"
        refine iD (fun z => ?_) (fun _ => ?_)
        · exfalso
          rw [z, tlZ] at hE
          by_cases hr : r = []
          · rw [hr] at hE
            cases hE
          · rw [drop_last hr] at hE
            have := D.last (by rw [hd]; simp)
            simp only [hd] at this
            rw [List.getLast_cons hr] at this
            exact this (List.cons.inj hE).1.symm
        repeat walk_at "rd"
        refine w_lenS (by omega) ?_
        repeat walk_at "rd"
        have hall : AllDigits (List.replicate (2 - (dg p.natAbs).length) 48 ++ dg p.natAbs) := all_app (all_rep _) (dg_all _)
        have hne : List.replicate (2 - (dg p.natAbs).length) 48 ++ dg p.natAbs ≠ [] := fun z => by
          have := congrArg List.length z
          rw [List.length_append, List.length_replicate, List.length_nil] at this
          omega
        obtain ⟨ti, tl6⟩ := text_int hN hall hne (by rw [List.length_append, List.length_replicate]; omega)
        rw [val_rep, dg_val] at ti
        refine iD (fun z => ?_) (fun z => ?_)
        · repeat walk_at "rd"
          obtain ⟨c', r', e', hc'⟩ := dg_head n0
          have hN' : tl N = c' :: r' := by
            rw [hN, e', show 2 - (c' :: r').length = 0 by rw [e'] at lN; omega]
            rfl
          refine w_ixS (c := c') (by omega) (at0 hN') ?_
          repeat walk_at "rd"
          refine iD (fun z => absurd (congrArg (fun s : Str => s.cps.toList) z) (by rw [show ("0" : Str).cps.toList = [48] from tlZ]; intro w; cases w; omega)) (fun _ => ?_)
          repeat walk_at "rd"
          refine ⟨N, _, rfl, ti, tl6, ?_⟩
          repeat walk_at "rd"
          refine w_ixS (c := if p < 0 then 45 else 43) (by omega) (at0 hF) ?_
          repeat walk_at "rd"
          have bp : bits ((p.natAbs : Nat) : Int) ≤ 100000 := Int.le_trans (bits_mono (Int.natCast_nonneg _) (show ((p.natAbs : Nat) : Int) ≤ 1000 by omega)) (by decide)
          by_cases pn : p < 0
          · rw [if_pos pn]
            refine iD (fun z => absurd z (by decide +kernel)) (fun _ => ?_)
            repeat walk_at "rd"
            refine w_I (cmulx bp (by decide)) ?_
            repeat walk_at "rd"
            rw [show ((p.natAbs : Nat) : Int) * -1 = p by omega]
            repeat walk_at "rd"
            refine iD (fun _ => ?_) (fun z => absurd (by omega) z)
            refine iT ?_
            repeat walk_at "rd"
            refine w_tup2 fun q0 H6 s6 n6 h6 => ?_
            exact q q0 _ 0 H6 (s5.trans s6) (by decide) (by rw [TL.tl_append, hB, hH, hd]; simp) h6
          · rw [if_neg pn]
            refine iD (fun _ => ?_) (fun z => absurd (by decide +kernel) z)
            repeat walk_at "rd"
            refine w_I (cmulx bp (by decide)) ?_
            repeat walk_at "rd"
            rw [show ((p.natAbs : Nat) : Int) * 1 = p by omega]
            repeat walk_at "rd"
            refine iD (fun z => absurd z (by omega)) (fun _ => ?_)
            repeat walk_at "rd"
            refine iD (fun _ => ?_) (fun z => absurd (by omega) z)
            repeat walk_at "rd"
            refine w_tup2 fun q0 H6 s6 n6 h6 => ?_
            exact q q0 _ 0 H6 (s5.trans s6) (by decide) (by rw [TL.tl_append, hB, hH, hd]; simp) h6

        · repeat walk_at "rd"
          refine ⟨N, _, rfl, ti, tl6, ?_⟩
          repeat walk_at "rd"
          refine w_ixS (c := if p < 0 then 45 else 43) (by omega) (at0 hF) ?_
          repeat walk_at "rd"
          have bp : bits ((p.natAbs : Nat) : Int) ≤ 100000 := Int.le_trans (bits_mono (Int.natCast_nonneg _) (show ((p.natAbs : Nat) : Int) ≤ 1000 by omega)) (by decide)
          by_cases pn : p < 0
          · rw [if_pos pn]
            refine iD (fun z => absurd z (by decide +kernel)) (fun _ => ?_)
            repeat walk_at "rd"
            refine w_I (cmulx bp (by decide)) ?_
            repeat walk_at "rd"
            rw [show ((p.natAbs : Nat) : Int) * -1 = p by omega]
            repeat walk_at "rd"
            refine iD (fun _ => ?_) (fun z => absurd (by omega) z)
            refine iT ?_
            repeat walk_at "rd"
            refine w_tup2 fun q0 H6 s6 n6 h6 => ?_
            exact q q0 _ 0 H6 (s5.trans s6) (by decide) (by rw [TL.tl_append, hB, hH, hd]; simp) h6
          · rw [if_neg pn]
            refine iD (fun _ => ?_) (fun z => absurd (by decide +kernel) z)
            repeat walk_at "rd"
            refine w_I (cmulx bp (by decide)) ?_
            repeat walk_at "rd"
            rw [show ((p.natAbs : Nat) : Int) * 1 = p by omega]
            repeat walk_at "rd"
            refine iD (fun z => absurd z (by omega)) (fun _ => ?_)
            repeat walk_at "rd"
            refine iD (fun _ => ?_) (fun z => absurd (by omega) z)
            repeat walk_at "rd"
            refine w_tup2 fun q0 H6 s6 n6 h6 => ?_
            exact q q0 _ 0 H6 (s5.trans s6) (by decide) (by rw [TL.tl_append, hB, hH, hd]; simp) h6
      · exfalso
        rw [z] at hB
        rw [tlZ] at hB
        cases hB
        omega
    · obtain ⟨rfl, rfl, hp1, hp2, hB, hH⟩ := hf
      obtain ⟨c, r, hd, hc⟩ := D.hd
      have lB : B.length = 1 := len_of hB
      have lH := len_of hH
      have ldr := D.len
      rw [List.length_append, List.length_replicate] at lH
      have hB0 : B = "0" := str_ext (by rw [hB, tlZ])
      have hdn : ds ≠ [] := by rw [hd]; simp
      refine iD (fun _ => ?_) (fun c => absurd rfl c)
      repeat walk_at "rd"
      refine w_lenS (by omega) ?_
      repeat walk_at "rd"
      refine iD (fun _ => ?_) (fun z => absurd hB0 z)
      repeat walk_at "rd"
      refine w_lenS (by omega) ?_
      repeat walk_at "rd"
      refine w_bmS ?_
      repeat walk_at "rd"
      refine ⟨w_tyS, ?_⟩
      repeat walk_at "rd"
      refine ⟨_, _, rfl, rfl, Nat.le_trans (show Bh.length ≤ 1000 by omega) (by decide), ?_⟩
      have hl0 : tl (Txt.lstripChars Bh "0") = ds := by
        rw [lstrip0, hH, hd]
        exact drop_zeros _ (by omega)
      have ll := len_of hl0
      generalize Txt.lstripChars Bh "0" = L at hl0 ll ⊢
      repeat walk_at "rd"
      refine w_lenS (by omega) ?_
      repeat walk_at "rd"
      have hBn : tl Bh ≠ [] := by rw [hH, hd]; simp
      rw [show -1 - ((Bh.length : Int) - (L.length : Int)) = p by omega]
      refine w_neS ?_
      rw [decide_eq_false (show ¬ Str.ofString "." = Str.ofString "" by decide +kernel)]
      refine ⟨_, rfl, ?_⟩
      refine iT ?_
      repeat walk_at "rd"
      refine iD (fun _ => ?_) (fun z => absurd hB0 z)
      refine ⟨_, rfl, ?_⟩
      refine iT ?_
      repeat walk_at "rd"
      refine w_chain ?_
      repeat walk_at "rd"
      refine iD (fun _ => ?_) (fun z => absurd (by omega) z)
      repeat walk_at "rd"
      rw [decide_eq_true (show p < 14 by omega)]
      repeat walk_at "rd"
      refine w_lenS (by omega) ?_
      repeat walk_at "rd"
      refine iD (fun zl => ?_) (fun _ => ?_)
      · repeat walk_at "rd"
        refine w_ixS (by omega) (atlast hBn) ?_
        repeat walk_at "rd"
        refine iD (fun z => ?_) (fun _ => ?_)
        · exfalso
          have z := congrArg (fun s : Str => s.cps.toList) z
          rw [show ("0" : Str).cps.toList = [48] from tlZ] at z
          have hz := (List.cons.inj z).1
          have := D.last hdn
          simp only [hH] at hz
          rw [List.getLast_append_of_ne_nil _ hdn] at hz
          exact this hz
        repeat walk_at "rd"
        refine w_bmS ?_
        repeat walk_at "rd"
        refine ⟨w_tyS, ?_⟩
        repeat walk_at "rd"
        refine ⟨_, _, rfl, rfl, Nat.le_trans (show (B ++ Bh).length ≤ 1000 by rw [len_app]; omega) (by decide), ?_⟩
        repeat walk_at "rd"
        refine w_tup2 fun q0 H6 s6 n6 h6 => ?_
        exact q q0 _ 0 H6 s6 (by decide) (by
          rw [lstrip0, TL.tl_append, hB, hH, hd]
          rw [show [48] ++ (List.replicate (0 - p - 1).toNat 48 ++ c :: r) = List.replicate ((0 - p - 1).toNat + 1) 48 ++ c :: r by rw [List.replicate_succ]; rfl, drop_zeros _ (by omega)]
          simp) h6

      · repeat walk_at "rd"
        refine w_bmS ?_
        repeat walk_at "rd"
        refine ⟨w_tyS, ?_⟩
        repeat walk_at "rd"
        refine ⟨_, _, rfl, rfl, Nat.le_trans (show (B ++ Bh).length ≤ 1000 by rw [len_app]; omega) (by decide), ?_⟩
        repeat walk_at "rd"
        refine w_tup2 fun q0 H6 s6 n6 h6 => ?_
        exact q q0 _ 0 H6 s6 (by decide) (by
          rw [lstrip0, TL.tl_append, hB, hH, hd]
          rw [show [48] ++ (List.replicate (0 - p - 1).toNat 48 ++ c :: r) = List.replicate ((0 - p - 1).toNat + 1) 48 ++ c :: r by rw [List.replicate_succ]; rfl, drop_zeros _ (by omega)]
          simp) h6
    · obtain ⟨rfl, rfl, hp1, hp2, hB, hB2, ⟨j, hj15, hje⟩, hn, hl⟩ := hf
      obtain ⟨c, r, hB2, hc⟩ := hB2
      have lB : B.length = (p + 1).toNat := by rw [← tl_len]; exact hB
      have lS := congrArg List.length hje
      have ldr := D.len
      rw [List.length_append, List.length_append, List.length_replicate, tl_len, tl_len] at lS
      have hB0 : ¬ B = "0" := fun z => by
        rw [z, tlZ] at hB2
        cases hB2
        omega
      refine iD (fun _ => ?_) (fun c => absurd rfl c)
      repeat walk_at "rd"
      refine w_lenS (by omega) ?_
      repeat walk_at "rd"
      refine iD (fun z => absurd z hB0) (fun _ => ?_)
      repeat walk_at "rd"
      rw [show (B.length : Int) - 1 = p by omega]
      refine w_neS ?_
      rw [decide_eq_false (show ¬ Str.ofString "." = Str.ofString "" by decide +kernel)]
      refine ⟨_, rfl, ?_⟩
      refine iT ?_
      repeat walk_at "rd"
      refine iD (fun z => absurd z hB0) (fun _ => ?_)
      repeat walk_at "rd"
      refine w_ixS (c := c) (by omega) (at0 hB2) ?_
      repeat walk_at "rd"
      refine w_neS ?_
      rw [decide_eq_false (show ¬ (⟨#[c]⟩ : Str) = "0" from fun z => by
        have z := congrArg (fun s : Str => s.cps.toList) z
        rw [show ("0" : Str).cps.toList = [48] from tlZ] at z
        cases z
        omega)]
      refine ⟨_, rfl, ?_⟩
      refine iT ?_
      repeat walk_at "rd"
      refine w_chain ?_
      repeat walk_at "rd"
      refine iD (fun _ => ?_) (fun z => absurd (by omega) z)
      repeat walk_at "rd"
      rw [decide_eq_true (show p < 14 by omega)]
      repeat walk_at "rd"
      refine w_lenS (by omega) ?_
      repeat walk_at "rd"
      refine iD (fun zl => ?_) (fun _ => ?_)
      · repeat walk_at "rd"
        refine w_ixS (by omega) (atlast hn) ?_
        repeat walk_at "rd"
        refine iD (fun z => ?_) (fun _ => ?_)
        · exfalso
          have z := congrArg (fun s : Str => s.cps.toList) z
          rw [show ("0" : Str).cps.toList = [48] from tlZ] at z
          exact hl (by rw [tl_len]; omega) hn (List.cons.inj z).1
        repeat walk_at "rd"
        refine w_bmS ?_
        repeat walk_at "rd"
        refine ⟨w_tyS, ?_⟩
        repeat walk_at "rd"
        refine ⟨_, _, rfl, rfl, Nat.le_trans (show (B ++ Bh).length ≤ 1000 by rw [len_app]; omega) (by decide), ?_⟩
        repeat walk_at "rd"
        refine w_tup2 fun q0 H6 s6 n6 h6 => ?_
        exact q q0 _ j H6 s6 hj15 (by
          rw [lstrip0, TL.tl_append, ← hje, hB2]
          exact drop_zeros 0 (by omega)) h6

      · repeat walk_at "rd"
        refine w_bmS ?_
        repeat walk_at "rd"
        refine ⟨w_tyS, ?_⟩
        repeat walk_at "rd"
        refine ⟨_, _, rfl, rfl, Nat.le_trans (show (B ++ Bh).length ≤ 1000 by rw [len_app]; omega) (by decide), ?_⟩
        repeat walk_at "rd"
        refine w_tup2 fun q0 H6 s6 n6 h6 => ?_
        exact q q0 _ j H6 s6 hj15 (by
          rw [lstrip0, TL.tl_append, ← hje, hB2]
          exact drop_zeros 0 (by omega)) h6
end
end Nu

set_option Elab.async false
set_option linter.all false
set_option maxRecDepth 100000
set_option autoImplicit false
set_option maxHeartbeats 4000000
set_option pp.maxSteps 900
namespace Nu
open PySem PySem.Spec PyProof.Rows L2 Rd Dg TL PySem.NumText
local macro_rules | `(tactic| walk_at "hp") => `(tactic| first | assumption | (refine same_get ?sm ?_; (case sm => assumption); walk_at "hp"))
local macro_rules | `(tactic| walk_at "rd") => `(tactic| first
  | (with_reducible show Ends.nx _ _ _; with_reducible refine w_nx ?_)
  | with_reducible refine w_rt ?_
  | (with_reducible show Ends.bk _ _ _; with_reducible refine w_bk ?_)
  | (with_reducible show Ends.ct _ _ _; with_reducible refine w_ct ?_)
  | with_reducible refine w_seq ?_
  | with_reducible refine w_next ?_
  | with_reducible refine w_ret ?_
  | with_reducible refine w_ifS ?_
  | with_reducible refine w_asg ?_
  | with_reducible refine w_name ?_
  | with_reducible refine w_par ?_
  | with_reducible refine w_parI ?_
  | with_reducible refine w_ii ?_
  | with_reducible refine w_i1 ?_
  | with_reducible refine w_drop ?_
  | with_reducible refine w_sFld ?_
  | ((with_reducible refine' w_var ?rdh ?_); (case rdh => exact rfl))
  | with_reducible refine w_c ?_
  | with_reducible refine w_op ?_
  | with_reducible refine w_un ?_
  | with_reducible refine w_I0 ?_
  | with_reducible refine w_U ?_
  | with_reducible refine w_bits ?_
  | with_reducible refine w_bitsI ?_
  | with_reducible refine w_tup ?_
  | with_reducible refine w_lst ?_
  | with_reducible refine w_nil ?_
  | with_reducible refine w_cons ?_
  | with_reducible refine w_fld ?_
  | with_reducible refine w_call ?_
  | with_reducible refine w_make ?_
  | with_reducible refine w_gsub ?_
  | with_reducible refine w_int1 ?_
  | with_reducible refine w_intB ?_
  | with_reducible refine w_for ?_
  | with_reducible refine w_rng1 ?_
  | with_reducible refine w_iList ?_
  | with_reducible refine w_iTup ?_
  | with_reducible refine w_makeD ?_
  | with_reducible refine w_nn ?_
  | with_reducible refine w_subB ?_
  | with_reducible refine w_meth ?_
  | with_reducible refine w_cb ?_
  | with_reducible refine w_test ?_
  | with_reducible refine w_B ?_
  | with_reducible refine w_bl ?_
  | with_reducible refine w_andV ?_
  | with_reducible refine w_orV ?_
  | with_reducible refine w_notV ?_
  | with_reducible refine w_and ?_
  | with_reducible refine w_or ?_
  | with_reducible refine w_not ?_
  | with_reducible refine w_if ?_
  | with_reducible refine w_gnil ?_
  | with_reducible refine w_gcons ?_
  | with_reducible refine iT ?_
  | with_reducible refine iF ?_
  | with_reducible refine w_eqI ?_
  | with_reducible refine w_neI ?_
  | with_reducible refine w_eqS ?_
  | with_reducible refine w_eqIS ?_
  | with_reducible refine w_eqSI ?_)

/-! ### what is shown is near -/
def hiM (p : Int) : Int := if 13 < p then 10 ^ (p - 13).toNat else 1
def loM (p : Int) : Int := if 13 < p then 1 else 10 ^ (13 - p).toNat
structure Good (U B W P : Int) : Prop where
  near : ∀ g, g = 2 * (U * loM P - W * hiM P * B) → -(hiM P * B) ≤ g ∧ g ≤ hiM P * B ∧ ((g = hiM P * B ∨ -g = hiM P * B) → W % 2 = 0)
  low : 10000000000000 < W ∨ 0 ≤ 2 * (U * loM P - W * hiM P * B) ∨ 20 * (W * hiM P * B - U * loM P) ≤ hiM P * B
theorem good {U B pl : Int} (b0 : 0 < B) (h : PlaceOf U B pl) : Good U B (shF U B pl) (shP U B pl) := by
  obtain ⟨h1, h2⟩ := place_sc h
  have hB := rdB_pos (pl := 13 - pl) b0
  have eT : rdT U (13 - pl) = U * loM pl := by
    unfold rdT loM
    by_cases c : 13 < pl
    · rw [if_neg (by omega), if_pos c, Int.mul_one]
    · rw [if_pos (by omega), if_neg c]
  have eB : rdB B (13 - pl) = hiM pl * B := by
    unfold rdB hiM
    by_cases c : 13 < pl
    · rw [if_neg (by omega), if_pos c, show (0 - (13 - pl)).toNat = (pl - 13).toNat by omega, Int.mul_comm]
    · rw [if_pos (by omega), if_neg c, Int.one_mul]
  unfold shF shP
  rw [eT, eB] at h1 h2 ⊢
  rw [eB] at hB
  clear eT eB
  have m1 := Int.mul_ediv_add_emod (U * loM pl) (hiM pl * B)
  have m2 := Int.emod_nonneg (U * loM pl) (show hiM pl * B ≠ 0 by omega)
  have m3 := Int.emod_lt_of_pos (U * loM pl) hB
  have l : 10000000000000 ≤ U * loM pl / (hiM pl * B) := (Int.le_ediv_iff_mul_le hB).2 (by rw [Int.mul_comm]; exact h1)
  have u : U * loM pl / (hiM pl * B) < 100000000000000 := (Int.ediv_lt_iff_lt_mul hB).2 (by rw [Int.mul_comm (100000000000000 : Int)]; exact h2)
  have key : ∀ W, W * hiM pl * B = (hiM pl * B) * W := fun W => by rw [Int.mul_assoc, Int.mul_comm]
  unfold rdM
  generalize hT : U * loM pl = T at *
  generalize hBq : hiM pl * B = Bq at *
  generalize T / Bq = q at *
  generalize T % Bq = r at *
  by_cases cu : Bq < 2 * r ∨ (2 * r = Bq ∧ q % 2 = 1)
  · rw [if_pos cu]
    by_cases cc : q + 1 = 100000000000000
    · rw [if_pos cc, if_pos cc]
      have hq : q = 99999999999999 := by omega
      subst hq
      have r2 : Bq ≤ 2 * r := by omega
      by_cases c13 : 13 < pl + 1
      · have eh : hiM (pl + 1) = 10 * hiM pl := by
          unfold hiM
          rw [if_pos c13]
          by_cases c : 13 < pl
          · rw [if_pos c, show (pl + 1 - 13).toNat = (pl - 13).toNat + 1 by omega, Int.pow_succ, Int.mul_comm]
          · rw [if_neg c, show (pl + 1 - 13).toNat = 1 by omega]
            rfl
        have el : loM (pl + 1) = loM pl := by
          unfold loM
          rw [if_pos c13]
          by_cases c : 13 < pl
          · rw [if_pos c]
          · rw [if_neg c, show (13 - pl).toNat = 0 by omega]
            rfl
        have e1 : hiM (pl + 1) * B = 10 * Bq := by rw [eh, Int.mul_assoc, hBq]
        have e2 : (10000000000000 : Int) * hiM (pl + 1) * B = 100000000000000 * Bq := by rw [Int.mul_assoc, e1]; omega
        refine ⟨fun g hg => ?_, .inr (.inr ?_)⟩
        · rw [e2, el, hT] at hg
          rw [e1]
          omega
        · rw [e1, e2, el, hT]
          omega
      · have eh : hiM (pl + 1) = hiM pl := by
          unfold hiM
          rw [if_neg c13, if_neg (by omega)]
        have el : U * loM (pl + 1) * 10 = T := by
          rw [← hT]
          unfold loM
          rw [if_neg c13, if_neg (by omega), show (13 - pl).toNat = (13 - (pl + 1)).toNat + 1 by omega, Int.pow_succ, Int.mul_assoc]
        have e1 : hiM (pl + 1) * B = Bq := by rw [eh, hBq]
        have e2 : (10000000000000 : Int) * hiM (pl + 1) * B = 10000000000000 * Bq := by rw [Int.mul_assoc, e1]
        refine ⟨fun g hg => ?_, .inr (.inr ?_)⟩
        · rw [e2] at hg
          rw [e1]
          omega
        · rw [e1, e2]
          omega
    · rw [if_neg cc, if_neg cc]
      have e : (q + 1) * hiM pl * B = Bq * q + Bq := by rw [key, Int.mul_add, Int.mul_one]
      refine ⟨fun g hg => ?_, .inl (by omega)⟩
      rw [hT, e] at hg
      rw [hBq]
      omega
  · rw [if_neg cu]
    rw [if_neg (by omega), if_neg (by omega)]
    have e : q * hiM pl * B = Bq * q := key q
    refine ⟨fun g hg => ?_, .inr (.inl ?_)⟩
    · rw [hT, e] at hg
      rw [hBq]
      omega
    · rw [hT, e]
      omega
end Nu

set_option Elab.async false
set_option linter.all false
set_option maxRecDepth 100000
set_option autoImplicit false
set_option maxHeartbeats 4000000
set_option pp.maxSteps 900
namespace Nu
open PySem PySem.Spec PyProof.Rows L2 Rd Dg TL PySem.NumText
local macro_rules | `(tactic| walk_at "hp") => `(tactic| first | assumption | (refine same_get ?sm ?_; (case sm => assumption); walk_at "hp"))
local macro_rules | `(tactic| walk_at "rd") => `(tactic| first
  | (with_reducible show Ends.nx _ _ _; with_reducible refine w_nx ?_)
  | with_reducible refine w_rt ?_
  | (with_reducible show Ends.bk _ _ _; with_reducible refine w_bk ?_)
  | (with_reducible show Ends.ct _ _ _; with_reducible refine w_ct ?_)
  | with_reducible refine w_seq ?_
  | with_reducible refine w_next ?_
  | with_reducible refine w_ret ?_
  | with_reducible refine w_ifS ?_
  | with_reducible refine w_asg ?_
  | with_reducible refine w_name ?_
  | with_reducible refine w_par ?_
  | with_reducible refine w_parI ?_
  | with_reducible refine w_ii ?_
  | with_reducible refine w_i1 ?_
  | with_reducible refine w_drop ?_
  | with_reducible refine w_sFld ?_
  | ((with_reducible refine' w_var ?rdh ?_); (case rdh => exact rfl))
  | with_reducible refine w_c ?_
  | with_reducible refine w_op ?_
  | with_reducible refine w_un ?_
  | with_reducible refine w_I0 ?_
  | with_reducible refine w_U ?_
  | with_reducible refine w_bits ?_
  | with_reducible refine w_bitsI ?_
  | with_reducible refine w_tup ?_
  | with_reducible refine w_lst ?_
  | with_reducible refine w_nil ?_
  | with_reducible refine w_cons ?_
  | with_reducible refine w_fld ?_
  | with_reducible refine w_call ?_
  | with_reducible refine w_make ?_
  | with_reducible refine w_gsub ?_
  | with_reducible refine w_int1 ?_
  | with_reducible refine w_intB ?_
  | with_reducible refine w_for ?_
  | with_reducible refine w_rng1 ?_
  | with_reducible refine w_iList ?_
  | with_reducible refine w_iTup ?_
  | with_reducible refine w_makeD ?_
  | with_reducible refine w_nn ?_
  | with_reducible refine w_subB ?_
  | with_reducible refine w_meth ?_
  | with_reducible refine w_cb ?_
  | with_reducible refine w_test ?_
  | with_reducible refine w_B ?_
  | with_reducible refine w_bl ?_
  | with_reducible refine w_andV ?_
  | with_reducible refine w_orV ?_
  | with_reducible refine w_notV ?_
  | with_reducible refine w_and ?_
  | with_reducible refine w_or ?_
  | with_reducible refine w_not ?_
  | with_reducible refine w_if ?_
  | with_reducible refine w_gnil ?_
  | with_reducible refine w_gcons ?_
  | with_reducible refine iT ?_
  | with_reducible refine iF ?_
  | with_reducible refine w_eqI ?_
  | with_reducible refine w_neI ?_
  | with_reducible refine w_eqS ?_
  | with_reducible refine w_eqIS ?_
  | with_reducible refine w_eqSI ?_)

theorem bits_sub2 (a b : Int) : bits (a - b) ≤ bits a + bits b + 1 := by
  have ha := bits_le.1 (show bits a ≤ (Builtin.Int.intBits a : Nat) from Int.le_refl _)
  have hb := bits_le.1 (show bits b ≤ (Builtin.Int.intBits b : Nat) from Int.le_refl _)
  have e : bits a + bits b + 1 = ((Builtin.Int.intBits a + Builtin.Int.intBits b + 1 : Nat) : Int) := by
    show ((Builtin.Int.intBits a : Nat) : Int) + ((Builtin.Int.intBits b : Nat) : Int) + 1 = _
    omega
  rw [e]
  refine bits_le.2 ?_
  have h1 : 2 ^ Builtin.Int.intBits a ≤ 2 ^ (Builtin.Int.intBits a + Builtin.Int.intBits b) := Nat.pow_le_pow_right (by decide) (by omega)
  have h2 : 2 ^ Builtin.Int.intBits b ≤ 2 ^ (Builtin.Int.intBits a + Builtin.Int.intBits b) := Nat.pow_le_pow_right (by decide) (by omega)
  rw [Nat.pow_succ]
  omega
section
variable {P : Program} {w : World} {K : PySem.W.Frag} {mg : Str → Option Value} {base : Heap} {CF : Addr}
def spTens : Sp := fun vs H Q _ => ∃ n : Int, vs = [.int n] ∧ 0 ≤ n ∧ n ≤ 600 ∧ Q (.int (10 ^ n.toNat)) H
theorem sc_law_tens : FnScope ["many", "found", "k"] ["many"] (defScope s_law_tens) := ⟨rfl, rfl, rfl, by decide +kernel, rfl, by decide +kernel, by decide +kernel⟩
theorem ok_tens (T : AllS K mg CF) : Kn P w K mg base CX0 1 "_law_tens" ["many"] spTens := by
  refine T.x_tens.kn fun f fd F => ?_
  refine F.ok sc_law_tens (fun vs H Q E h => ?_) (fun cdv A outer s H vs Q E hr h => ?_)
  · obtain ⟨n, rfl, _⟩ := h
    rfl
  · obtain ⟨n, rfl, n0, n1, q⟩ := h
    refine ⟨_, (pss_cons (ps_set (i := 1) sc_law_tens.nd rfl (Or.inl rfl) pe_int)
      (pss_cons (ps_for PassesOwn.never rfl (pi_range1 rfl T.b_range (pa_cons (pv 0) pa_nil)) (pg_name (i := 2) sc_law_tens.nd rfl (Or.inl rfl))
      (pss_one (ps_set (i := 1) sc_law_tens.nd rfl (Or.inl rfl) (pe_op op_mulX (pv 1) pe_int))))
      (pss_one (ps_ret (pv 1))))), ?_⟩
    repeat walk_at "rd"
    refine ⟨by omega, by omega, ?_⟩
    refine for_range (lo := 0) (fun i σ' H' => H' = H ∧ ∃ y, σ' = [some (.int n), some (.int (10 ^ i)), y]) ⟨rfl, none, rfl⟩ ?_ ?_
    · rintro i σ' H' hi ⟨rfl, y, rfl⟩
      have hi : i < 600 := by omega
      have b1 := bits10 i
      repeat walk_at "rd"
      refine w_I (cmulx (by omega) (by decide)) ?_
      repeat walk_at "rd"
      exact ⟨rfl, _, by rw [Int.pow_succ]; rfl⟩
    · rintro σ' H' ⟨rfl, y, rfl⟩
      repeat walk_at "rd"
      exact q
theorem u_tens {n : Int} {H : Hp} {Q : VK} {E : XK} (h0 : 0 ≤ n) (h : n ≤ 600) (q : Q (.int (10 ^ n.toNat)) H) : spTens ([V.int n] ++ []) H Q E := ⟨n, rfl, h0, h, q⟩
def spIsShown : Sp := fun vs H Q _ => ∃ z U B pl, vs = [.str z, .int U, .int B] ∧ 0 < U ∧ 0 < B ∧ bits U ≤ 1100 ∧ bits B ≤ 1100 ∧ PlaceOf U B pl ∧ -370 ≤ pl ∧ pl ≤ 370 ∧ tl z = shM U B pl ∧ ∀ H', Same H H' → Q (.bl true) H'
theorem sc_law_is_shown : FnScope ["text", "top", "bottom", "parts", "figures", "place", "whole", "high", "low", "gap", "is_even", "unit"] ["text", "top", "bottom"] (defScope s_law_is_shown) := ⟨rfl, rfl, rfl, by decide +kernel, rfl, by decide +kernel, by decide +kernel⟩
theorem ok_is_shown (T : AllS K mg CF) (k_law_parts : Kn P w K mg base CX0 1 "_law_parts" ["text"] spParts) (k_law_tens : Kn P w K mg base CX0 1 "_law_tens" ["many"] spTens) : Kn P w K mg base CX0 2 "_law_is_shown" ["text", "top", "bottom"] spIsShown := by
  refine T.x_is_shown.kn fun f fd F => ?_
  refine F.ok sc_law_is_shown (fun vs H Q E h => ?_) (fun cdv A outer s H vs Q E hr h => ?_)
  · obtain ⟨z, U, B, pl, rfl, _⟩ := h
    rfl
  · obtain ⟨z, U, B, pl, rfl, u0, b0, bu, bb, hp, l0, l1, hz, q⟩ := h
    refine ⟨_, (pss_cons (ps_set (i := 3) sc_law_is_shown.nd rfl (Or.inl rfl) (pk k_law_parts hr (pa_cons (pv 0) pa_nil)))
      (pss_cons (ps_if (pt_cmpR op_isN (pv 3) pe_non (nomark _)) (pss_one (ps_ret pe_bl)) pss_nil)
      (pss_cons (ps_asg (pv 3) (pg_tup (by rfl) (pgs_cons (pg_name (i := 4) sc_law_is_shown.nd rfl (Or.inl rfl)) (pgs_cons (pg_name (i := 5) sc_law_is_shown.nd rfl (Or.inl rfl)) pgs_nil))))
      (C8.pss_cut (ps_while PassesOwn.never (PW.pt (pw_and (pt_cmpR op_gt (pe_callB call_len_str (by rfl) T.b_len boot_len (pa_cons (pv 4) pa_nil)) pe_int (nomark _)) (pw_and1 (pt_cmpR op_eq (pe_ix ix_str (pv 4) (pe_un un_neg pe_int) (fun _ _ => rfl)) pe_str (nomark _)))))
      (pss_one (ps_set (i := 4) sc_law_is_shown.nd rfl (Or.inl rfl) (pe_slice sl_str (pv 4) po_none (po_some (pe_un un_neg pe_int))))))
      (pss_cons (ps_if (pt_cmpR op_gt (pe_callB call_len_str (by rfl) T.b_len boot_len (pa_cons (pv 4) pa_nil)) pe_int (nomark _)) (pss_one (ps_ret pe_bl)) pss_nil)
      (pss_cons (ps_set (i := 6) sc_law_is_shown.nd rfl (Or.inl rfl) (pe_op op_mulX (pe_callTy call_int_str (by rfl) T.b_int boot_int (pa_cons (pv 4) pa_nil)) (pk k_law_tens hr (pa_cons (pe_op op_sub pe_int (pe_callB call_len_str (by rfl) T.b_len boot_len (pa_cons (pv 4) pa_nil))) pa_nil))))
      (pss_cons (ps_asg (pe_tup (pa_cons pe_int (pa_cons pe_int pa_nil))) (pg_tup (by rfl) (pgs_cons (pg_name (i := 7) sc_law_is_shown.nd rfl (Or.inl rfl)) (pgs_cons (pg_name (i := 8) sc_law_is_shown.nd rfl (Or.inl rfl)) pgs_nil))))
      (C8.pss_cut (ps_if (pt_cmpR op_gt (pv 5) pe_int (nomark _)) (pss_one (ps_set (i := 7) sc_law_is_shown.nd rfl (Or.inl rfl) (pk k_law_tens hr (pa_cons (pe_op op_sub (pv 5) pe_int) pa_nil)))) (pss_one (ps_set (i := 8) sc_law_is_shown.nd rfl (Or.inl rfl) (pk k_law_tens hr (pa_cons (pe_op op_sub pe_int (pv 5)) pa_nil)))))
      (pss_cons (ps_set (i := 9) sc_law_is_shown.nd rfl (Or.inl rfl) (pe_op op_mulX pe_int (pe_op op_sub (pe_op op_mulX (pv 1) (pv 8)) (pe_op op_mulX (pe_op op_mulX (pv 6) (pv 7)) (pv 2)))))
      (pss_cons (ps_set (i := 10) sc_law_is_shown.nd rfl (Or.inl rfl) (pe_cmpR op_eq (pe_op op_mod (pe_callTy call_int1 (by rfl) T.b_int boot_int (pa_cons (pv 6) pa_nil)) pe_int) pe_int (nomark _)))
      (pss_cons (ps_set (i := 11) sc_law_is_shown.nd rfl (Or.inl rfl) (pe_op op_mulX (pv 7) (pv 2)))
      (pss_cons (ps_if (PW.pt (pw_or (pt_cmpR op_gt (pe_callB call_abs (by rfl) T.b_abs boot_abs (pa_cons (pv 9) pa_nil)) (pv 11) (nomark _)) (pw_or1 (PW.pt (pw_and (pt_cmpR op_eq (pe_callB call_abs (by rfl) T.b_abs boot_abs (pa_cons (pv 9) pa_nil)) (pv 11) (nomark _)) (pw_and1 (pt_not (pt_val (pv 10))))))))) (pss_one (ps_ret pe_bl)) pss_nil)
      (pss_one (ps_ret (pe_or (pe_cmpR op_gt (pv 6) (pk k_law_tens hr (pa_cons pe_int pa_nil)) (nomark _)) (pe_or (pe_cmpR op_ge (pv 9) pe_int (nomark _)) (pe_one (pe_cmpR op_le (pe_op op_mulX pe_int (pe_op op_sub (pe_op op_mulX (pe_op op_mulX (pv 6) (pv 7)) (pv 2)) (pe_op op_mulX (pv 1) (pv 8)))) (pv 11) (nomark _))))))))))))))))))), ?_⟩
    have lz := len_of hz
    have lz2 := sh_len b0 hp l0 l1
    have G := good b0 hp
    obtain ⟨c, r, hd, hc, hl, ha, hla, hv, f0, f1⟩ := sh_ds b0 hp
    have D : Dgs (c :: r) := ⟨⟨c, r, rfl, hc⟩, hl, ha, fun _ => hla⟩
    have p0 : -370 ≤ shP U B pl ∧ shP U B pl ≤ 371 := by unfold shP; split <;> omega
    unfold shM at hz
    rw [hd] at hz
    generalize shF U B pl = W at *
    generalize shP U B pl = pp at *
    have hdn : (c :: r) ≠ [] := by simp
    clear hla
    generalize hds : c :: r = ds at *
    repeat walk_at "rd"
    refine ⟨z, ds, pp, rfl, D, hz, by omega, by omega, by omega, fun a1 y j H1 s1 hj hy e1 => ?_⟩
    repeat walk_at "rd"
    refine iF ?_
    repeat walk_at "rd"
    refine w_gtup e1 rfl ?_
    repeat walk_at "rd"
    have ldp : 0 < ds.length := List.length_pos_iff.2 hdn
    refine w_cut (Mid := fun σ' H' => H' = H1 ∧ ∃ y' : Str, tl y' = ds ∧ σ' = [some (.str z), some (.int U), some (.int B), some (.ref a1), some (.str y'), some (.int pp), none, none, none, none, none, none]) ?_ ?_
    · refine w_while (m := j) (fun m σ' H' => H' = H1 ∧ ∃ (y' : Str) (i : Nat), m = i ∧ i ≤ 15 ∧ tl y' = ds ++ List.replicate i 48 ∧ σ' = [some (.str z), some (.int U), some (.int B), some (.ref a1), some (.str y'), some (.int pp), none, none, none, none, none, none]) ⟨rfl, y, j, rfl, hj, hy, rfl⟩ ?_
      rintro m σ' H' ⟨rfl, y', i, hm, hi, hy', rfl⟩
      have ly := len_of hy'
      rw [List.length_append, List.length_replicate] at ly
      repeat walk_at "rd"
      refine w_lenS (by omega) ?_
      repeat walk_at "rd"
      refine iD (fun z1 => ?_) (fun z1 => ?_)
      · repeat walk_at "rd"
        have hne : tl y' ≠ [] := by rw [hy']; simp [hdn]
        refine w_ixS (by omega) (atlast hne) ?_
        repeat walk_at "rd"
        refine iD (fun z2 => ?_) (fun z2 => ?_)
        · have z2 := (List.cons.inj (congrArg (fun s : Str => s.cps.toList) z2 |>.trans tlZ)).1
          have i0 : i ≠ 0 := fun e => by
            subst e
            simp only [hy', List.replicate_zero, List.append_nil] at z2
            exact D.last hdn z2
          obtain ⟨i', rfl⟩ : ∃ i', i = i' + 1 := ⟨i - 1, by omega⟩
          refine w_turn ?_
          repeat walk_at "rd"
          refine w_sl ?_
          repeat walk_at "rd"
          refine w_noPart ?_
          refine w_part ?_
          repeat walk_at "rd"
          refine w_slS (by omega) ?_
          have hc1 : tl (cutS y' none (some (-1))) = ds ++ List.replicate i' 48 := by
            rw [cut_toneg1 hy', List.replicate_succ', ← List.append_assoc, List.dropLast_concat]
          repeat walk_at "rd"
          exact ⟨i', by omega, rfl, _, i', rfl, by omega, hc1, rfl⟩
        · repeat walk_at "rd"
          have i0 : i = 0 := by
            refine Classical.byContradiction fun e => z2 ?_
            obtain ⟨i', rfl⟩ : ∃ i', i = i' + 1 := ⟨i - 1, by omega⟩
            have : (tl y').getLast hne = 48 := by
              simp only [hy', List.replicate_succ', ← List.append_assoc]
              simp
            rw [this]
            exact str_ext tlZ.symm
          subst i0
          refine ⟨rfl, y', ?_, rfl⟩
          rw [hy']
          simp
      · repeat walk_at "rd"
        have i0 : i = 0 := by omega
        subst i0
        refine ⟨rfl, y', ?_, rfl⟩
        rw [hy']
        simp
    rintro σ' H' ⟨rfl, y', hy', rfl⟩
    have ly := len_of hy'
    repeat walk_at "rd"
    refine w_lenS (by omega) ?_
    repeat walk_at "rd"
    refine iD (fun z => absurd z (by omega)) (fun _ => ?_)
    repeat walk_at "rd"
    obtain ⟨ti, t6⟩ := text_int hy' D.all hdn (by omega)
    refine ⟨y', _, rfl, ti, t6, ?_⟩
    repeat walk_at "rd"
    refine w_lenS (by omega) ?_
    repeat walk_at "rd"
    refine u_tens (by omega) (by omega) ?_
    repeat walk_at "rd"
    have eW : ((digitsVal ds : Nat) : Int) * 10 ^ (14 - (y'.length : Int)).toNat = W := by
      rw [← hv, show (14 - (y'.length : Int)).toNat = 14 - ds.length by omega]
      push_cast
      rfl
    have bW : bits W ≤ 50 := Int.le_trans (bits_mono (by omega) (show W ≤ 100000000000000 by omega)) (by decide)
    have bV : bits ((digitsVal ds : Nat) : Int) ≤ 100 := by
      have h1 := val_lt D.all
      have h2 := Nat.pow_le_pow_right (show 0 < 10 by decide) hl
      exact Int.le_trans (bits_mono (Int.natCast_nonneg _) (show ((digitsVal ds : Nat) : Int) ≤ 100000000000000 by omega)) (by decide)
    have b14 := bits10 (14 - (y'.length : Int)).toNat
    refine w_I (cmulx (by omega) (by omega)) ?_
    rw [eW]
    repeat walk_at "rd"
    refine w_tup2 fun a2 H2 s2 n2 e2 => ?_
    refine w_gtup e2 rfl ?_
    repeat walk_at "rd"
    refine w_cut (Mid := fun σ' H' => H' = H2 ∧ σ' = [some (.str z), some (.int U), some (.int B), some (.ref a1), some (.str y'), some (.int pp), some (.int W), some (.int (hiM pp)), some (.int (loM pp)), none, none, none]) ?_ ?_
    · repeat walk_at "rd"
      refine iD (fun z => ?_) (fun z => ?_)
      · repeat walk_at "rd"
        refine u_tens (by omega) (by omega) ?_
        repeat walk_at "rd"
        refine ⟨rfl, ?_⟩
        unfold hiM loM
        rw [if_pos z, if_pos z]
        rfl
      · repeat walk_at "rd"
        refine u_tens (by omega) (by omega) ?_
        repeat walk_at "rd"
        refine ⟨rfl, ?_⟩
        unfold hiM loM
        rw [if_neg z, if_neg z]
        rfl
    rintro σ' H3 ⟨rfl, rfl⟩
    have bh : bits (hiM pp) ≤ 1500 := by
      unfold hiM
      split
      · have := bits10 (pp - 13).toNat
        omega
      · decide
    have blo : bits (loM pp) ≤ 1600 := by
      unfold loM
      split
      · decide
      · have := bits10 (13 - pp).toNat
        omega
    obtain ⟨g1, g2⟩ := G
    generalize hiM pp = hi at *
    generalize loM pp = lo at *
    have m1 := bits_mul U lo
    have m2 := bits_mul W hi
    have m3 := bits_mul (W * hi) B
    have m4 := bits_mul hi B
    repeat walk_at "rd"
    refine w_I (cmulx (by omega) (by omega)) ?_
    repeat walk_at "rd"
    refine w_I (cmulx (by omega) (by omega)) ?_
    repeat walk_at "rd"
    refine w_I (cmulx (by omega) (by omega)) ?_
    repeat walk_at "rd"
    have m5 := bits_sub2 (U * lo) (W * hi * B)
    have m6 := bits_sub2 (W * hi * B) (U * lo)
    refine w_I (cmulx (by decide) (by omega)) ?_
    obtain ⟨h1, h2, h3⟩ := g1 _ rfl
    generalize hg : 2 * (U * lo - W * hi * B) = g at *
    repeat walk_at "rd"
    refine w_I (show (0 : Int) < 2 by decide) ?_
    repeat walk_at "rd"
    refine w_I (cmulx (by omega) (by omega)) ?_
    generalize hun : hi * B = un at *
    repeat walk_at "rd"
    have ab : (if g < 0 then -g else g) ≤ un := by split <;> omega
    refine iD (fun z => absurd z (by omega)) (fun _ => ?_)
    repeat walk_at "rd"
    refine iD (fun z => ?_) (fun _ => ?_)
    · repeat walk_at "rd"
      refine iN (fun h => absurd (h3 (by revert z; split <;> omega)) h) (fun _ => ?_)
      repeat walk_at "rd"
      refine u_tens (by decide) (by decide) ?_
      repeat walk_at "rd"
      refine iD (fun _ => ?_) (fun w1 => ?_)
      · repeat walk_at "rd"
        exact q _ (s1.trans s2)
      · repeat walk_at "rd"
        refine iD (fun _ => ?_) (fun w2 => ?_)
        · repeat walk_at "rd"
          exact q _ (s1.trans s2)
        · repeat walk_at "rd"
          refine w_I (cmulx (by omega) (by omega)) ?_
          repeat walk_at "rd"
          refine w_I (cmulx (by omega) (by omega)) ?_
          repeat walk_at "rd"
          refine w_I (cmulx (by omega) (by omega)) ?_
          repeat walk_at "rd"
          refine w_I (cmulx (by decide) (by omega)) ?_
          repeat walk_at "rd"
          have g3 : 20 * (W * hi * B - U * lo) ≤ un := by
            rcases g2 with h | h | h
            · exact absurd h w1
            · exact absurd h w2
            · exact h
          rw [decide_eq_true g3]
          exact q _ (s1.trans s2)

    · repeat walk_at "rd"
      refine u_tens (by decide) (by decide) ?_
      repeat walk_at "rd"
      refine iD (fun _ => ?_) (fun w1 => ?_)
      · repeat walk_at "rd"
        exact q _ (s1.trans s2)
      · repeat walk_at "rd"
        refine iD (fun _ => ?_) (fun w2 => ?_)
        · repeat walk_at "rd"
          exact q _ (s1.trans s2)
        · repeat walk_at "rd"
          refine w_I (cmulx (by omega) (by omega)) ?_
          repeat walk_at "rd"
          refine w_I (cmulx (by omega) (by omega)) ?_
          repeat walk_at "rd"
          refine w_I (cmulx (by omega) (by omega)) ?_
          repeat walk_at "rd"
          refine w_I (cmulx (by decide) (by omega)) ?_
          repeat walk_at "rd"
          have g3 : 20 * (W * hi * B - U * lo) ≤ un := by
            rcases g2 with h | h | h
            · exact absurd h w1
            · exact absurd h w2
            · exact h
          rw [decide_eq_true g3]
          exact q _ (s1.trans s2)
end
end Nu

set_option Elab.async false
set_option linter.all false
set_option maxRecDepth 100000
set_option autoImplicit false
set_option maxHeartbeats 4000000
set_option pp.maxSteps 900
namespace Nu
open PySem PySem.Spec PyProof.Rows L2 Rd Dg TL PySem.NumText
local macro_rules | `(tactic| walk_at "hp") => `(tactic| first | assumption | (refine same_get ?sm ?_; (case sm => assumption); walk_at "hp"))
local macro_rules | `(tactic| walk_at "rd") => `(tactic| first
  | (with_reducible show Ends.nx _ _ _; with_reducible refine w_nx ?_)
  | with_reducible refine w_rt ?_
  | (with_reducible show Ends.bk _ _ _; with_reducible refine w_bk ?_)
  | (with_reducible show Ends.ct _ _ _; with_reducible refine w_ct ?_)
  | with_reducible refine w_seq ?_
  | with_reducible refine w_next ?_
  | with_reducible refine w_ret ?_
  | with_reducible refine w_ifS ?_
  | with_reducible refine w_asg ?_
  | with_reducible refine w_name ?_
  | with_reducible refine w_par ?_
  | with_reducible refine w_parI ?_
  | with_reducible refine w_ii ?_
  | with_reducible refine w_i1 ?_
  | with_reducible refine w_drop ?_
  | with_reducible refine w_sFld ?_
  | ((with_reducible refine' w_var ?rdh ?_); (case rdh => exact rfl))
  | with_reducible refine w_c ?_
  | with_reducible refine w_op ?_
  | with_reducible refine w_un ?_
  | with_reducible refine w_I0 ?_
  | with_reducible refine w_U ?_
  | with_reducible refine w_bits ?_
  | with_reducible refine w_bitsI ?_
  | with_reducible refine w_tup ?_
  | with_reducible refine w_lst ?_
  | with_reducible refine w_nil ?_
  | with_reducible refine w_cons ?_
  | with_reducible refine w_fld ?_
  | with_reducible refine w_call ?_
  | with_reducible refine w_make ?_
  | with_reducible refine w_gsub ?_
  | with_reducible refine w_int1 ?_
  | with_reducible refine w_intB ?_
  | with_reducible refine w_for ?_
  | with_reducible refine w_rng1 ?_
  | with_reducible refine w_iList ?_
  | with_reducible refine w_iTup ?_
  | with_reducible refine w_makeD ?_
  | with_reducible refine w_nn ?_
  | with_reducible refine w_subB ?_
  | with_reducible refine w_meth ?_
  | with_reducible refine w_cb ?_
  | with_reducible refine w_test ?_
  | with_reducible refine w_B ?_
  | with_reducible refine w_bl ?_
  | with_reducible refine w_andV ?_
  | with_reducible refine w_orV ?_
  | with_reducible refine w_notV ?_
  | with_reducible refine w_and ?_
  | with_reducible refine w_or ?_
  | with_reducible refine w_not ?_
  | with_reducible refine w_if ?_
  | with_reducible refine w_gnil ?_
  | with_reducible refine w_gcons ?_
  | with_reducible refine iT ?_
  | with_reducible refine iF ?_
  | with_reducible refine w_eqI ?_
  | with_reducible refine w_neI ?_
  | with_reducible refine w_eqS ?_
  | with_reducible refine w_eqIS ?_
  | with_reducible refine w_eqSI ?_)

theorem sh_head {t b p : Int} (b0 : 0 < b) (h : PlaceOf t b p) : ∃ d r, shM t b p = d :: r ∧ 48 ≤ d := by
  obtain ⟨c, r, e, hc, _⟩ := sh_ds b0 h
  unfold shM
  rw [e]
  generalize shP t b p = pp at *
  unfold shL
  split
  · exact ⟨c, _, rfl, by omega⟩
  · split
    · exact ⟨48, _, rfl, by omega⟩
    · rename_i h1 h2
      obtain ⟨k, hk⟩ : ∃ k, (pp + 1).toNat = k + 1 := ⟨(pp + 1).toNat - 1, by omega⟩
      rw [hk]
      exact ⟨c, _, rfl, by omega⟩
section
variable {P : Program} {w : World} {K : PySem.W.Frag} {mg : Str → Option Value} {base : Heap} {CF : Addr}
def spRightT (CF : Addr) : Sp := fun vs H Q _ => ∃ a f, vs = [.ref a] ∧ FlAt CF H a f ∧ f.ok ∧ ∀ H', Same H H' → Q (.bl true) H'
theorem sc_law_right : FnScope ["number", "text", "ahead"] ["number"] (defScope s_law_right) := ⟨rfl, rfl, rfl, by decide +kernel, rfl, by decide +kernel, by decide +kernel⟩
theorem ok_right (T : AllS K mg CF) (k_text_of : Kn P w K mg base CX0 4 "text_of" ["number"] (spText CF)) (k_law_is_shown : Kn P w K mg base CX0 2 "_law_is_shown" ["text", "top", "bottom"] spIsShown) : Kn P w K mg base CX0 5 "_law_right" ["number"] (spRightT CF) := by
  refine T.x_right.kn fun f fd F => ?_
  refine F.ok sc_law_right (fun vs H Q E h => ?_) (fun cdv A outer s H vs Q E hr h => ?_)
  · obtain ⟨a, f, rfl, _⟩ := h
    rfl
  · obtain ⟨a, f, rfl, hf, ok, q⟩ := h
    refine ⟨_, (pss_cons (ps_set (i := 1) sc_law_right.nd rfl (Or.inl rfl) (pk k_text_of hr (pa_cons (pv 0) pa_nil)))
      (pss_cons (ps_if (pt_cmpR op_eq (pe_fld (pv 0) rfl) pe_str (nomark _)) (pss_one (ps_ret (pe_cmpR op_eq (pv 1) pe_str (nomark _)))) pss_nil)
      (C8.pss_cut (ps_set (i := 2) sc_law_right.nd rfl (Or.inl rfl) (pe_ifExp (pt_cmpR op_lt (pe_fld (pv 0) rfl) pe_int (nomark _)) pe_str pe_str))
      (pss_cons (ps_if (pt_cmpR op_eq (pe_fld (pv 0) rfl) pe_str (nomark _)) (pss_one (ps_ret (pe_cmpR op_eq (pv 1) (pe_op op_add_str (pv 2) pe_str) (nomark _)))) pss_nil)
      (pss_cons (ps_if (pt_cmpR op_eq (pe_fld (pv 0) rfl) pe_int (nomark _)) (pss_one (ps_ret (pe_cmpR op_eq (pv 1) (pe_op op_add_str (pv 2) pe_str) (nomark _)))) pss_nil)
      (pss_cons (ps_if (PW.pt (pw_or (pt_cmpR op_ne (pe_slice sl_str (pv 1) po_none (po_some (pe_callB call_len_str (by rfl) T.b_len boot_len (pa_cons (pv 2) pa_nil)))) (pv 2) (nomark _)) (pw_or1 (pt_cmpR op_eq (pe_slice sl_str (pe_slice sl_str (pv 1) (po_some (pe_callB call_len_str (by rfl) T.b_len boot_len (pa_cons (pv 2) pa_nil))) po_none) po_none (po_some pe_int)) pe_str (nomark _))))) (pss_one (ps_ret pe_bl)) pss_nil)
      (pss_cons (ps_if (pt_cmpR op_lt (pe_fld (pv 0) rfl) pe_int (nomark _)) (pss_one (ps_ret (pk k_law_is_shown hr (pa_cons (pe_slice sl_str (pv 1) (po_some (pe_callB call_len_str (by rfl) T.b_len boot_len (pa_cons (pv 2) pa_nil))) po_none) (pa_cons (pe_fld (pv 0) rfl) (pa_cons (pe_op op_shlW pe_int (pe_op op_sub pe_int (pe_fld (pv 0) rfl))) pa_nil)))))) pss_nil)
      (pss_one (ps_ret (pk k_law_is_shown hr (pa_cons (pe_slice sl_str (pv 1) (po_some (pe_callB call_len_str (by rfl) T.b_len boot_len (pa_cons (pv 2) pa_nil))) po_none) (pa_cons (pe_op op_shlW (pe_fld (pv 0) rfl) (pe_fld (pv 0) rfl)) (pa_cons pe_int pa_nil))))))))))))), ?_⟩
    repeat walk_at "rd"
    refine ⟨.ref a, .fl f, rfl, ⟨a, rfl, hf, ok⟩, fun Z H1 s1 ht => ?_⟩
    obtain ⟨dx, h1⟩ := id (hf.same s1)
    have q : ∀ H', Same H1 H' → Q (.bl true) H' := fun H' s => q H' (s1.trans s)
    repeat walk_at "rd"
    refine w_fldI h1 T.l_Float T.n_top (flds_t _ _ _) ?_
    repeat walk_at "rd"
    refine w_nan ?_
    repeat walk_at "rd"
    refine iB (fun z => ?_) (fun z => ?_)
    · have : f = .nan := by
        cases f with
        | nan => rfl
        | inf s => cases z
        | fin s t p => cases z
      subst this
      repeat walk_at "rd"
      rw [decide_eq_true (show Z = "nan" from ht)]
      exact q H1 (Same.refl _)
    · repeat walk_at "rd"
      refine w_cut (Mid := fun σ' H' => H' = H1 ∧ ∃ X : Str, tl X = (if f.s < 0 then [45] else []) ∧ σ' = [some (.ref a), some (.str Z), some (.str X)]) ?_ ?_
      · repeat walk_at "rd"
        refine w_fldI h1 T.l_Float T.n_sign (flds_s _ _ _) ?_
        repeat walk_at "rd"
        refine iD (fun c => ?_) (fun c => ?_)
        · repeat walk_at "rd"
          exact ⟨rfl, _, by rw [if_pos c, tlM], rfl⟩
        · repeat walk_at "rd"
          exact ⟨rfl, _, by rw [if_neg c]; decide +kernel, rfl⟩
      rintro σ' H' ⟨rfl, X, hX, rfl⟩
      have lX : X.length ≤ 1 := by rw [len_of hX]; split <;> simp
      repeat walk_at "rd"
      refine w_fldI h1 T.l_Float T.n_top (flds_t _ _ _) ?_
      repeat walk_at "rd"
      refine w_inf ?_
      cases f with
      | nan => cases z
      | inf s =>
        repeat walk_at "rd"
        refine iT ?_
        repeat walk_at "rd"
        refine w_addS (by show X.length + 3 ≤ _; omega) ?_
        have e : Z = X ++ "inf" := by
          refine str_ext ?_
          rw [TL.tl_append, hX, show Z = _ from ht]
          show _ = (if s < 0 then [45] else []) ++ _
          split <;> decide +kernel
        refine w_eqS ?_
        rw [decide_eq_true e]
        exact q H' (Same.refl _)
      | fin s t p =>
        repeat walk_at "rd"
        refine iF ?_
        repeat walk_at "rd"
        refine w_fldI h1 T.l_Float T.n_top (flds_t _ _ _) ?_
        repeat walk_at "rd"
        refine w_eqI (i := t) (j := 0) ?_
        repeat walk_at "rd"
        have ht : if t = 0 then Z = (if s < 0 then "-0.0" else "0.0" : Str) else ∃ pl, PlaceOf (ratT 1 t p) (ratB p) pl ∧ -370 ≤ pl ∧ pl ≤ 370 ∧ tl Z = (if s < 0 then [45] else []) ++ shM (ratT 1 t p) (ratB p) pl := ht
        refine iD (fun c => ?_) (fun c => ?_)
        · rw [if_pos c] at ht
          repeat walk_at "rd"
          refine w_addS (by show X.length + 3 ≤ _; omega) ?_
          have e : Z = X ++ "0.0" := by
            refine str_ext ?_
            rw [TL.tl_append, hX, ht]
            show _ = (if s < 0 then [45] else []) ++ _
            split <;> decide +kernel
          refine w_eqS ?_
          rw [decide_eq_true e]
          exact q H' (Same.refl _)
        · rw [if_neg c] at ht
          obtain ⟨pl, hp, l0, l1, hZ⟩ := ht
          rw [show (if s < 0 then [45] else []) = tl X from hX.symm] at hZ
          have sl := sh_len (ratB_pos p) hp l0 l1
          have lZ := len_of hZ
          rw [List.length_append, tl_len] at lZ
          have hS : cutS Z none (some (X.length : Int)) = X := str_ext (by rw [cut_to hZ, ← tl_len, List.take_left])
          have hR : tl (cutS Z (some (X.length : Int)) none) = shM (ratT 1 t p) (ratB p) pl := by rw [cut_from hZ, ← tl_len, List.drop_left]
          repeat walk_at "rd"
          refine w_sl ?_
          repeat walk_at "rd"
          refine w_noPart ?_
          refine w_part ?_
          repeat walk_at "rd"
          refine w_lenS (by omega) ?_
          repeat walk_at "rd"
          refine w_slS (by omega) ?_
          rw [hS]
          repeat walk_at "rd"
          refine w_neS ?_
          rw [decide_eq_true rfl]
          repeat walk_at "rd"
          refine iF ?_
          repeat walk_at "rd"
          refine w_sl ?_
          refine w_sl ?_
          repeat walk_at "rd"
          refine w_part ?_
          repeat walk_at "rd"
          refine w_lenS (by omega) ?_
          repeat walk_at "rd"
          refine w_noPart ?_
          refine w_slS (by omega) ?_
          obtain ⟨R, hRe⟩ : ∃ R, cutS Z (some (X.length : Int)) none = R := ⟨_, rfl⟩
          rw [hRe] at hR ⊢
          have lR := len_of hR
          repeat walk_at "rd"
          refine w_noPart ?_
          refine w_part ?_
          repeat walk_at "rd"
          refine w_slS (by omega) ?_
          obtain ⟨d, r, hdr, hd48⟩ := sh_head (ratB_pos p) hp
          have hR1 : tl (cutS R none (some 1)) = [d] := (cut_to (k := 1) (hR.trans hdr)).trans rfl
          generalize cutS R none (some 1) = R1 at hR1 ⊢
          repeat walk_at "rd"
          refine iD (fun z => ?_) (fun _ => ?_)
          · rw [z, tlM] at hR1
            cases hR1
            omega
          repeat walk_at "rd"
          refine w_fldI h1 T.l_Float T.n_power (flds_p _ _ _) ?_
          repeat walk_at "rd"
          obtain ⟨-, bt0, p1, p2, t00, tp⟩ := ok_bounds ok
          refine iD (c := p < 0) (fun pn => ?_) (fun pn => ?_)
          · have eU : ratT 1 t p = t := by
              unfold ratT
              rw [if_pos pn, Int.one_mul]
            have eB : ratB p = 1 * 2 ^ (0 - p).toNat := by
              unfold ratB
              rw [if_pos pn, Int.one_mul]
            rw [eU, eB] at hp hR
            repeat walk_at "rd"
            refine w_sl ?_
            repeat walk_at "rd"
            refine w_part ?_
            repeat walk_at "rd"
            refine w_lenS (by omega) ?_
            repeat walk_at "rd"
            refine w_noPart ?_
            refine w_slS (by omega) ?_
            rw [hRe]
            repeat walk_at "rd"
            refine w_fldI h1 T.l_Float T.n_top (flds_t _ _ _) ?_
            repeat walk_at "rd"
            refine w_fldI h1 T.l_Float T.n_power (flds_p _ _ _) ?_
            repeat walk_at "rd"
            refine w_I (cshl (i := 1) (j := 0 - p) (by decide) (by omega) (by omega)) ?_
            repeat walk_at "rd"
            refine ⟨R, t, _, pl, rfl, by omega, ?_, by omega, ?_, hp, l0, l1, hR, q⟩
            · rw [Int.one_mul]
              exact pow_pos2 _
            · show bits (1 * 2 ^ (0 - p).toNat) ≤ 1100
              rw [Int.one_mul, bits_pow]
              omega
          · have eU : ratT 1 t p = t * 2 ^ p.toNat := by
              unfold ratT
              rw [if_neg pn, Int.one_mul]
            have eB : ratB p = 1 := by
              unfold ratB
              rw [if_neg pn]
            rw [eU, eB] at hp hR
            have h1b := bits_mul t (2 ^ p.toNat)
            have h2b := bits_pow p.toNat
            repeat walk_at "rd"
            refine w_sl ?_
            repeat walk_at "rd"
            refine w_part ?_
            repeat walk_at "rd"
            refine w_lenS (by omega) ?_
            repeat walk_at "rd"
            refine w_noPart ?_
            refine w_slS (by omega) ?_
            rw [hRe]
            repeat walk_at "rd"
            refine w_fldI h1 T.l_Float T.n_top (flds_t _ _ _) ?_
            repeat walk_at "rd"
            refine w_fldI h1 T.l_Float T.n_power (flds_p _ _ _) ?_
            repeat walk_at "rd"
            refine w_I (cshl (i := t) (j := p) (by omega) (by omega) (by omega)) ?_
            repeat walk_at "rd"
            refine ⟨R, _, 1, pl, rfl, Int.mul_pos (by omega) (pow_pos2 _), by decide, (show bits (t * 2 ^ p.toNat) ≤ 1100 by omega), by decide, hp, l0, l1, hR, q⟩
end
end Nu

set_option Elab.async false
set_option linter.all false
set_option maxRecDepth 100000
set_option autoImplicit false
set_option maxHeartbeats 4000000
set_option pp.maxSteps 900
namespace Nu
open PySem PySem.Spec PyProof.Rows L2 Rd Dg TL PySem.NumText
local macro_rules | `(tactic| walk_at "hp") => `(tactic| first | assumption | (refine same_get ?sm ?_; (case sm => assumption); walk_at "hp"))
local macro_rules | `(tactic| walk_at "rd") => `(tactic| first
  | (with_reducible show Ends.nx _ _ _; with_reducible refine w_nx ?_)
  | with_reducible refine w_rt ?_
  | (with_reducible show Ends.bk _ _ _; with_reducible refine w_bk ?_)
  | (with_reducible show Ends.ct _ _ _; with_reducible refine w_ct ?_)
  | with_reducible refine w_seq ?_
  | with_reducible refine w_next ?_
  | with_reducible refine w_ret ?_
  | with_reducible refine w_ifS ?_
  | with_reducible refine w_asg ?_
  | with_reducible refine w_name ?_
  | with_reducible refine w_par ?_
  | with_reducible refine w_parI ?_
  | with_reducible refine w_ii ?_
  | with_reducible refine w_i1 ?_
  | with_reducible refine w_drop ?_
  | with_reducible refine w_sFld ?_
  | ((with_reducible refine' w_var ?rdh ?_); (case rdh => exact rfl))
  | with_reducible refine w_c ?_
  | with_reducible refine w_op ?_
  | with_reducible refine w_un ?_
  | with_reducible refine w_I0 ?_
  | with_reducible refine w_U ?_
  | with_reducible refine w_bits ?_
  | with_reducible refine w_bitsI ?_
  | with_reducible refine w_tup ?_
  | with_reducible refine w_lst ?_
  | with_reducible refine w_nil ?_
  | with_reducible refine w_cons ?_
  | with_reducible refine w_fld ?_
  | with_reducible refine w_call ?_
  | with_reducible refine w_make ?_
  | with_reducible refine w_gsub ?_
  | with_reducible refine w_int1 ?_
  | with_reducible refine w_intB ?_
  | with_reducible refine w_for ?_
  | with_reducible refine w_rng1 ?_
  | with_reducible refine w_iList ?_
  | with_reducible refine w_iTup ?_
  | with_reducible refine w_makeD ?_
  | with_reducible refine w_nn ?_
  | with_reducible refine w_subB ?_
  | with_reducible refine w_meth ?_
  | with_reducible refine w_cb ?_
  | with_reducible refine w_test ?_
  | with_reducible refine w_B ?_
  | with_reducible refine w_bl ?_
  | with_reducible refine w_andV ?_
  | with_reducible refine w_orV ?_
  | with_reducible refine w_notV ?_
  | with_reducible refine w_and ?_
  | with_reducible refine w_or ?_
  | with_reducible refine w_not ?_
  | with_reducible refine w_if ?_
  | with_reducible refine w_gnil ?_
  | with_reducible refine w_gcons ?_
  | with_reducible refine iT ?_
  | with_reducible refine iF ?_
  | with_reducible refine w_eqI ?_
  | with_reducible refine w_neI ?_
  | with_reducible refine w_eqS ?_
  | with_reducible refine w_eqIS ?_
  | with_reducible refine w_eqSI ?_)

/-! ### some texts -/
theorem place_uniq {t b p p' : Int} (t0 : 0 < t) (b0 : 0 < b) (h : PlaceOf t b p) (h' : PlaceOf t b p') : p = p' := by
  have go : ∀ p p' : Int, PlaceOf t b p → PlaceOf t b p' → ¬ p < p' := by
    intro p p' h h' c
    have le : ∀ {i j : Nat} {x : Int}, 0 < x → i ≤ j → x * 10 ^ i ≤ x * 10 ^ j := fun {i j x} hx hij => by
      refine Int.mul_le_mul_of_nonneg_left ?_ (Int.le_of_lt hx)
      obtain ⟨k, rfl⟩ := Nat.exists_eq_add_of_le hij
      rw [Int.pow_add]
      have h1 := pow10_pos i
      have h2 := pow10_pos k
      have h3 : (10 : Int) ^ i * 1 ≤ 10 ^ i * 10 ^ k := Int.mul_le_mul_of_nonneg_left (by omega) (Int.le_of_lt h1)
      omega
    rcases h with ⟨a0, a1, a2⟩ | ⟨a0, a1, a2⟩ <;> rcases h' with ⟨c0, c1, c2⟩ | ⟨c0, c1, c2⟩
    · have := le b0 (show p.toNat + 1 ≤ p'.toNat by omega)
      omega
    · omega
    · have h1 := le t0 (show 0 ≤ (0 - p).toNat - 1 by omega)
      have h2 := le b0 (show 0 ≤ p'.toNat by omega)
      rw [Int.pow_zero, Int.mul_one] at h1 h2
      omega
    · have := le t0 (show (0 - p').toNat ≤ (0 - p).toNat - 1 by omega)
      omega
  have h1 := go p p' h h'
  have h2 := go p' p h' h
  omega
/-- the text of a finite float, worked out -/
theorem text_known {s t p pl : Int} {z z' : Str} (t0 : 0 < t) (hp : PlaceOf (ratT 1 t p) (ratB p) pl) (e : tl z = (if s < 0 then [45] else []) ++ shM (ratT 1 t p) (ratB p) pl) (h : TextOf (.fl (.fin s t p)) z') : z' = z := by
  have h : if t = 0 then z' = (if s < 0 then "-0.0" else "0.0" : Str) else ∃ pl, PlaceOf (ratT 1 t p) (ratB p) pl ∧ -370 ≤ pl ∧ pl ≤ 370 ∧ tl z' = (if s < 0 then [45] else []) ++ shM (ratT 1 t p) (ratB p) pl := h
  rw [if_neg (by omega)] at h
  obtain ⟨pl', hp', _, _, hz⟩ := h
  have t1 : 0 < ratT 1 t p := by
    unfold ratT
    split
    · omega
    · rw [Int.one_mul]
      exact Int.mul_pos t0 (pow_pos2 _)
  have := place_uniq t1 (ratB_pos p) hp' hp
  subst this
  exact str_ext (hz.trans e.symm)
instance (t b p : Int) : Decidable (PlaceOf t b p) := by unfold PlaceOf; infer_instance
instance (f : Fl) : Decidable f.ok := by
  cases f <;> (unfold Fl.ok; infer_instance)
def RowOk (CF : Addr) (H : Hp) (x : V) : Prop := ∃ q v n z, x = .ref q ∧ H q = some (.tup [v, .str z]) ∧ NmAt CF H v n ∧ ∀ z', TextOf n z' → z' = z
theorem RowOk.same {CF : Addr} {H H' : Hp} {x : V} (h : RowOk CF H x) (s : Same H H') : RowOk CF H' x := by
  obtain ⟨q, v, n, z, e, hq, hv, ht⟩ := h
  exact ⟨q, v, n, z, e, s _ _ hq, hv.same s, ht⟩
section
variable {P : Program} {w : World} {K : PySem.W.Frag} {mg : Str → Option Value} {base : Heap} {CF : Addr}
def spKnown : Sp := fun vs H Q _ => vs = [] ∧ ∀ H', Same H H' → Q (.bl true) H'
theorem sc_law_known_right : FnScope ["rows", "row"] [] (defScope s_law_known_right) := ⟨rfl, rfl, rfl, by decide +kernel, rfl, by decide +kernel, by decide +kernel⟩
theorem ok_known (T : AllS K mg CF) (k_Float_init : KnC P w K mg base CX0 2 "Float" CF ["self", "sign", "top", "power"] (spInit CF)) (k_arith : Kn P w K mg base CX0 8 "arith" ["word", "one", "other"] (spAri CF)) (k_text_of : Kn P w K mg base CX0 4 "text_of" ["number"] (spText CF)) : Kn P w K mg base CX0 9 "_law_known_right" [] spKnown := by
  refine T.x_known.kn fun f fd F => ?_
  refine F.ok sc_law_known_right (fun vs H Q E h => ?_) (fun cdv A outer s H vs Q E hr h => ?_)
  · obtain ⟨rfl, _⟩ := h
    rfl
  · obtain ⟨rfl, q⟩ := h
    refine ⟨_, (C8.pss_cut (ps_set (i := 0) sc_law_known_right.nd rfl (Or.inl rfl) (pe_lst (pa_cons (pe_tup (pa_cons (pkC k_Float_init hr (pa_cons pe_int (pa_cons pe_int (pa_cons pe_int pa_nil)))) (pa_cons pe_str pa_nil))) (pa_cons (pe_tup (pa_cons (pkC k_Float_init hr (pa_cons (pe_un un_neg pe_int) (pa_cons pe_int (pa_cons (pe_un un_neg pe_int) pa_nil)))) (pa_cons pe_str pa_nil))) (pa_cons (pe_tup (pa_cons (pkC k_Float_init hr (pa_cons pe_int (pa_cons pe_int (pa_cons pe_int pa_nil)))) (pa_cons pe_str pa_nil))) pa_nil)))))
      (C8.pss_cut (ps_set (i := 0) sc_law_known_right.nd rfl (Or.inl rfl) (pe_op op_cat (pv 0) (pe_lst (pa_cons (pe_tup (pa_cons (pkC k_Float_init hr (pa_cons pe_int (pa_cons pe_int (pa_cons pe_int pa_nil)))) (pa_cons pe_str pa_nil))) (pa_cons (pe_tup (pa_cons (pkC k_Float_init hr (pa_cons pe_int (pa_cons pe_int (pa_cons pe_int pa_nil)))) (pa_cons pe_str pa_nil))) pa_nil)))))
      (C8.pss_cut (ps_set (i := 0) sc_law_known_right.nd rfl (Or.inl rfl) (pe_op op_cat (pv 0) (pe_lst (pa_cons (pe_tup (pa_cons (pkC k_Float_init hr (pa_cons pe_int (pa_cons pe_int (pa_cons pe_int pa_nil)))) (pa_cons pe_str pa_nil))) pa_nil))))
      (C8.pss_cut (ps_set (i := 0) sc_law_known_right.nd rfl (Or.inl rfl) (pe_op op_cat (pv 0) (pe_lst (pa_cons (pe_tup (pa_cons (pkC k_Float_init hr (pa_cons pe_int (pa_cons pe_int (pa_cons (pe_un un_neg pe_int) pa_nil)))) (pa_cons pe_str pa_nil))) (pa_cons (pe_tup (pa_cons (pkC k_Float_init hr (pa_cons pe_int (pa_cons pe_int (pa_cons (pe_un un_neg pe_int) pa_nil)))) (pa_cons pe_str pa_nil))) pa_nil)))))
      (C8.pss_cut (ps_set (i := 0) sc_law_known_right.nd rfl (Or.inl rfl) (pe_op op_cat (pv 0) (pe_lst (pa_cons (pe_tup (pa_cons (pkC k_Float_init hr (pa_cons pe_int (pa_cons pe_int (pa_cons (pe_un un_neg pe_int) pa_nil)))) (pa_cons pe_str pa_nil))) (pa_cons (pe_tup (pa_cons (pk k_arith hr (pa_cons pe_str (pa_cons pe_int (pa_cons pe_int pa_nil)))) (pa_cons pe_str pa_nil))) pa_nil)))))
      (C8.pss_cut (ps_set (i := 0) sc_law_known_right.nd rfl (Or.inl rfl) (pe_op op_cat (pv 0) (pe_lst (pa_cons (pe_tup (pa_cons (pkC k_Float_init hr (pa_cons pe_int (pa_cons (pe_op op_sub (pe_op op_shlW pe_int pe_int) pe_int) (pa_cons pe_int pa_nil)))) (pa_cons pe_str pa_nil))) (pa_cons (pe_tup (pa_cons (pk k_arith hr (pa_cons pe_str (pa_cons pe_int (pa_cons pe_int pa_nil)))) (pa_cons pe_str pa_nil))) (pa_cons (pe_tup (pa_cons (pe_un un_neg pe_int) (pa_cons pe_str pa_nil))) pa_nil))))))
      (C8.pss_cut (ps_set (i := 0) sc_law_known_right.nd rfl (Or.inl rfl) (pe_op op_cat (pv 0) (pe_lst (pa_cons (pe_tup (pa_cons (pk k_arith hr (pa_cons pe_str (pa_cons (pe_op op_pow pe_int pe_int) (pa_cons pe_int pa_nil)))) (pa_cons pe_str pa_nil))) (pa_cons (pe_tup (pa_cons (pe_un un_neg (pe_op op_shlW pe_int pe_int)) (pa_cons pe_str pa_nil))) (pa_cons (pe_tup (pa_cons pe_int (pa_cons pe_str pa_nil))) pa_nil))))))
      (pss_one (ps_ret (pe_cmpR (op_eqNilT hr.units64S) (pe_lc (own := [("row", 1)]) (g := (gName 1)) (tt := _) rfl sc_law_known_right.nd (pi_list (pv 0)) (blkOk_by (N := ["rows", "row"]) (sc := defScope s_law_known_right) (by decide +kernel)) (fun _ _ _ _ _ => (pg_name (i := 1) sc_law_known_right.nd rfl (Or.inl rfl))) (fun _ _ _ _ _ => pts_one (pt_cmpR op_ne (pk k_text_of hr (pa_cons (pe_ix (ix_tupT (K := K)) (pv 1) pe_int (fun _ _ => rfl)) pa_nil)) (pe_ix (ix_tupT (K := K)) (pv 1) pe_int (fun _ _ => rfl)) (nomark _))) (fun _ _ _ _ _ => (pv 1))) (pe_lst pa_nil) (nomark _))))))))))), ?_⟩
    repeat walk_at "rd"
    have sH := Same.refl H
    refine w_cut (Mid := fun σ' H' => Same H H' ∧ ∃ R xs, σ' = [some (.ref R), none] ∧ H' R = some (.lst xs) ∧ xs.length ≤ 3 ∧ ∀ x ∈ xs, RowOk CF H' x) ?_ ?_
    · repeat walk_at "rd"
      refine u_Float (f := .fin 1 1 0) (.inl ⟨1, rfl, by decide, .inl rfl, by decide +kernel, by decide +kernel⟩) fun x1 H1 s1 n1 k1 => ?_
      repeat walk_at "rd"
      refine w_tup2 fun t1 G1 w1 m1 e1 => ?_
      repeat walk_at "rd"
      have r1 : RowOk CF G1 (.ref t1) := ⟨t1, _, .fl (.fin 1 1 0), _, rfl, e1, ⟨x1, rfl, k1.same w1, by decide +kernel⟩, fun z' h => text_known (pl := 0) (by decide) (by decide +kernel) (by decide +kernel) h⟩
      refine u_Float (f := .fin (-1) 1 (-1)) (.inl ⟨1, rfl, by decide, .inr rfl, by decide +kernel, by decide +kernel⟩) fun x2 H2 s2 n2 k2 => ?_
      repeat walk_at "rd"
      have r1 := r1.same s2
      refine w_tup2 fun t2 G2 w2 m2 e2 => ?_
      repeat walk_at "rd"
      have r1 := r1.same w2
      have r2 : RowOk CF G2 (.ref t2) := ⟨t2, _, .fl (.fin (-1) 1 (-1)), _, rfl, e2, ⟨x2, rfl, k2.same w2, by decide +kernel⟩, fun z' h => text_known (pl := (-1)) (by decide) (by decide +kernel) (by decide +kernel) h⟩
      refine u_Float (f := .fin 1 1 53) (.inl ⟨1, rfl, by decide, .inl rfl, by decide +kernel, by decide +kernel⟩) fun x3 H3 s3 n3 k3 => ?_
      repeat walk_at "rd"
      have r1 := r1.same s3
      have r2 := r2.same s3
      refine w_tup2 fun t3 G3 w3 m3 e3 => ?_
      repeat walk_at "rd"
      have r1 := r1.same w3
      have r2 := r2.same w3
      have r3 : RowOk CF G3 (.ref t3) := ⟨t3, _, .fl (.fin 1 1 53), _, rfl, e3, ⟨x3, rfl, k3.same w3, by decide +kernel⟩, fun z' h => text_known (pl := 15) (by decide) (by decide +kernel) (by decide +kernel) h⟩
      refine w_lstI (by show 3 ≤ 1000; decide) fun l3 L3 u3 v3 f3 => ?_
      repeat walk_at "rd"
      have sA := (((((s1.trans w1).trans s2).trans w2).trans s3).trans w3).trans u3
      refine ⟨sH.trans sA, l3, _, rfl, f3, by show 3 ≤ 3; decide, fun x hm => ?_⟩
      simp only [List.mem_cons, List.not_mem_nil, or_false] at hm
      rcases hm with rfl | rfl | rfl
      · exact r1.same u3
      · exact r2.same u3
      · exact r3.same u3
    rintro σ' H0 ⟨sH, R, xs, rfl, hR, hl, hx⟩
    repeat walk_at "rd"
    refine w_cut (Mid := fun σ' H' => Same H H' ∧ ∃ R xs, σ' = [some (.ref R), none] ∧ H' R = some (.lst xs) ∧ xs.length ≤ 5 ∧ ∀ x ∈ xs, RowOk CF H' x) ?_ ?_
    · repeat walk_at "rd"
      refine u_Float (f := .fin 1 5 1) (.inl ⟨5, rfl, by decide, .inl rfl, by decide +kernel, by decide +kernel⟩) fun x4 H4 s4 n4 k4 => ?_
      repeat walk_at "rd"
      refine w_tup2 fun t4 G4 w4 m4 e4 => ?_
      repeat walk_at "rd"
      have r4 : RowOk CF G4 (.ref t4) := ⟨t4, _, .fl (.fin 1 5 1), _, rfl, e4, ⟨x4, rfl, k4.same w4, by decide +kernel⟩, fun z' h => text_known (pl := 1) (by decide) (by decide +kernel) (by decide +kernel) h⟩
      refine u_Float (f := .fin 1 1 46) (.inl ⟨1, rfl, by decide, .inl rfl, by decide +kernel, by decide +kernel⟩) fun x5 H5 s5 n5 k5 => ?_
      repeat walk_at "rd"
      have r4 := r4.same s5
      refine w_tup2 fun t5 G5 w5 m5 e5 => ?_
      repeat walk_at "rd"
      have r4 := r4.same w5
      have r5 : RowOk CF G5 (.ref t5) := ⟨t5, _, .fl (.fin 1 1 46), _, rfl, e5, ⟨x5, rfl, k5.same w5, by decide +kernel⟩, fun z' h => text_known (pl := 13) (by decide) (by decide +kernel) (by decide +kernel) h⟩
      refine w_lstI (by show 2 ≤ 1000; decide) fun l5 L5 u5 v5 f5 => ?_
      repeat walk_at "rd"
      have sA := (((s4.trans w4).trans s5).trans w5).trans u5
      refine w_cat (sA _ _ hR) f5 (Nat.le_trans (show xs.length + 2 ≤ 100 by omega) (by decide)) fun c5 C5 y5 z5 g5 => ?_
      repeat walk_at "rd"
      refine ⟨sH.trans (sA.trans y5), c5, _, rfl, g5, by rw [List.length_append]; show xs.length + 2 ≤ _; omega, fun x hm => ?_⟩
      rcases List.mem_append.1 hm with hm | hm
      · exact (hx x hm).same (sA.trans y5)
      · simp only [List.mem_cons, List.not_mem_nil, or_false] at hm
        rcases hm with rfl | rfl
        · exact r4.same (u5.trans y5)
        · exact r5.same (u5.trans y5)
    rintro σ' H0 ⟨sH, R, xs, rfl, hR, hl, hx⟩
    repeat walk_at "rd"
    refine w_cut (Mid := fun σ' H' => Same H H' ∧ ∃ R xs, σ' = [some (.ref R), none] ∧ H' R = some (.lst xs) ∧ xs.length ≤ 6 ∧ ∀ x ∈ xs, RowOk CF H' x) ?_ ?_
    · repeat walk_at "rd"
      refine u_Float (f := .fin 1 1 47) (.inl ⟨1, rfl, by decide, .inl rfl, by decide +kernel, by decide +kernel⟩) fun x6 H6 s6 n6 k6 => ?_
      repeat walk_at "rd"
      refine w_tup2 fun t6 G6 w6 m6 e6 => ?_
      repeat walk_at "rd"
      have r6 : RowOk CF G6 (.ref t6) := ⟨t6, _, .fl (.fin 1 1 47), _, rfl, e6, ⟨x6, rfl, k6.same w6, by decide +kernel⟩, fun z' h => text_known (pl := 14) (by decide) (by decide +kernel) (by decide +kernel) h⟩
      refine w_lstI (by show 1 ≤ 1000; decide) fun l6 L6 u6 v6 f6 => ?_
      repeat walk_at "rd"
      have sA := (s6.trans w6).trans u6
      refine w_cat (sA _ _ hR) f6 (Nat.le_trans (show xs.length + 1 ≤ 100 by omega) (by decide)) fun c6 C6 y6 z6 g6 => ?_
      repeat walk_at "rd"
      refine ⟨sH.trans (sA.trans y6), c6, _, rfl, g6, by rw [List.length_append]; show xs.length + 1 ≤ _; omega, fun x hm => ?_⟩
      rcases List.mem_append.1 hm with hm | hm
      · exact (hx x hm).same (sA.trans y6)
      · simp only [List.mem_cons, List.not_mem_nil, or_false] at hm
        subst hm
        exact r6.same (u6.trans y6)
    rintro σ' H0 ⟨sH, R, xs, rfl, hR, hl, hx⟩
    repeat walk_at "rd"
    refine w_cut (Mid := fun σ' H' => Same H H' ∧ ∃ R xs, σ' = [some (.ref R), none] ∧ H' R = some (.lst xs) ∧ xs.length ≤ 8 ∧ ∀ x ∈ xs, RowOk CF H' x) ?_ ?_
    · repeat walk_at "rd"
      refine u_Float (f := .fin 1 1 (-13)) (.inl ⟨1, rfl, by decide, .inl rfl, by decide +kernel, by decide +kernel⟩) fun x7 H7 s7 n7 k7 => ?_
      repeat walk_at "rd"
      refine w_tup2 fun t7 G7 w7 m7 e7 => ?_
      repeat walk_at "rd"
      have r7 : RowOk CF G7 (.ref t7) := ⟨t7, _, .fl (.fin 1 1 (-13)), _, rfl, e7, ⟨x7, rfl, k7.same w7, by decide +kernel⟩, fun z' h => text_known (pl := (-4)) (by decide) (by decide +kernel) (by decide +kernel) h⟩
      refine u_Float (f := .fin 1 1 (-14)) (.inl ⟨1, rfl, by decide, .inl rfl, by decide +kernel, by decide +kernel⟩) fun x8 H8 s8 n8 k8 => ?_
      repeat walk_at "rd"
      have r7 := r7.same s8
      refine w_tup2 fun t8 G8 w8 m8 e8 => ?_
      repeat walk_at "rd"
      have r7 := r7.same w8
      have r8 : RowOk CF G8 (.ref t8) := ⟨t8, _, .fl (.fin 1 1 (-14)), _, rfl, e8, ⟨x8, rfl, k8.same w8, by decide +kernel⟩, fun z' h => text_known (pl := (-5)) (by decide) (by decide +kernel) (by decide +kernel) h⟩
      refine w_lstI (by show 2 ≤ 1000; decide) fun l8 L8 u8 v8 f8 => ?_
      repeat walk_at "rd"
      have sA := (((s7.trans w7).trans s8).trans w8).trans u8
      refine w_cat (sA _ _ hR) f8 (Nat.le_trans (show xs.length + 2 ≤ 100 by omega) (by decide)) fun c8 C8 y8 z8 g8 => ?_
      repeat walk_at "rd"
      refine ⟨sH.trans (sA.trans y8), c8, _, rfl, g8, by rw [List.length_append]; show xs.length + 2 ≤ _; omega, fun x hm => ?_⟩
      rcases List.mem_append.1 hm with hm | hm
      · exact (hx x hm).same (sA.trans y8)
      · simp only [List.mem_cons, List.not_mem_nil, or_false] at hm
        rcases hm with rfl | rfl
        · exact r7.same (u8.trans y8)
        · exact r8.same (u8.trans y8)
    rintro σ' H0 ⟨sH, R, xs, rfl, hR, hl, hx⟩
    repeat walk_at "rd"
    refine w_cut (Mid := fun σ' H' => Same H H' ∧ ∃ R xs, σ' = [some (.ref R), none] ∧ H' R = some (.lst xs) ∧ xs.length ≤ 10 ∧ ∀ x ∈ xs, RowOk CF H' x) ?_ ?_
    · repeat walk_at "rd"
      refine u_Float (f := .fin 1 1 (-1074)) (.inl ⟨1, rfl, by decide, .inl rfl, by decide +kernel, by decide +kernel⟩) fun x9 H9 s9 n9 k9 => ?_
      repeat walk_at "rd"
      refine w_tup2 fun t9 G9 w9 m9 e9 => ?_
      repeat walk_at "rd"
      have r9 : RowOk CF G9 (.ref t9) := ⟨t9, _, .fl (.fin 1 1 (-1074)), _, rfl, e9, ⟨x9, rfl, k9.same w9, by decide +kernel⟩, fun z' h => text_known (pl := (-324)) (by decide) (by decide +kernel) (by decide +kernel) h⟩
      refine ⟨"div", _, _, .int 1, .int 3, rfl, .inr (.inr (.inr rfl)), .inl rfl, ⟨rfl, by decide⟩, ⟨rfl, by decide⟩, fun x10 H10 s10 k10 => ?_⟩
      rw [show ariM "div" (toF (.int 1)) (toF (.int 3)) = .fin 1 6004799503160661 (-54) by decide +kernel] at k10
      repeat walk_at "rd"
      have r9 := r9.same s10
      refine w_tup2 fun t10 G10 w10 m10 e10 => ?_
      repeat walk_at "rd"
      have r9 := r9.same w10
      have r10 : RowOk CF G10 (.ref t10) := ⟨t10, _, .fl (.fin 1 6004799503160661 (-54)), _, rfl, e10, ⟨x10, rfl, k10.same w10, by decide +kernel⟩, fun z' h => text_known (pl := (-1)) (by decide) (by decide +kernel) (by decide +kernel) h⟩
      refine w_lstI (by show 2 ≤ 1000; decide) fun l10 L10 u10 v10 f10 => ?_
      repeat walk_at "rd"
      have sA := (((s9.trans w9).trans s10).trans w10).trans u10
      refine w_cat (sA _ _ hR) f10 (Nat.le_trans (show xs.length + 2 ≤ 100 by omega) (by decide)) fun c10 C10 y10 z10 g10 => ?_
      repeat walk_at "rd"
      refine ⟨sH.trans (sA.trans y10), c10, _, rfl, g10, by rw [List.length_append]; show xs.length + 2 ≤ _; omega, fun x hm => ?_⟩
      rcases List.mem_append.1 hm with hm | hm
      · exact (hx x hm).same (sA.trans y10)
      · simp only [List.mem_cons, List.not_mem_nil, or_false] at hm
        rcases hm with rfl | rfl
        · exact r9.same (u10.trans y10)
        · exact r10.same (u10.trans y10)
    rintro σ' H0 ⟨sH, R, xs, rfl, hR, hl, hx⟩
    repeat walk_at "rd"
    refine w_cut (Mid := fun σ' H' => Same H H' ∧ ∃ R xs, σ' = [some (.ref R), none] ∧ H' R = some (.lst xs) ∧ xs.length ≤ 13 ∧ ∀ x ∈ xs, RowOk CF H' x) ?_ ?_
    · repeat walk_at "rd"
      refine w_I (cshl (i := 1) (j := 53) (by decide) (by decide) (by decide)) ?_
      repeat walk_at "rd"
      rw [show (1 : Int) * 2 ^ (53 : Int).toNat - 1 = 9007199254740991 by decide]
      refine u_Float (f := .fin 1 9007199254740991 971) (.inl ⟨9007199254740991, rfl, by decide, .inl rfl, by decide +kernel, by decide +kernel⟩) fun x11 H11 s11 n11 k11 => ?_
      repeat walk_at "rd"
      refine w_tup2 fun t11 G11 w11 m11 e11 => ?_
      repeat walk_at "rd"
      have r11 : RowOk CF G11 (.ref t11) := ⟨t11, _, .fl (.fin 1 9007199254740991 971), _, rfl, e11, ⟨x11, rfl, k11.same w11, by decide +kernel⟩, fun z' h => text_known (pl := 308) (by decide) (by decide +kernel) (by decide +kernel) h⟩
      refine ⟨"div", _, _, .int 1, .int 10, rfl, .inr (.inr (.inr rfl)), .inl rfl, ⟨rfl, by decide⟩, ⟨rfl, by decide⟩, fun x12 H12 s12 k12 => ?_⟩
      rw [show ariM "div" (toF (.int 1)) (toF (.int 10)) = .fin 1 3602879701896397 (-55) by decide +kernel] at k12
      repeat walk_at "rd"
      have r11 := r11.same s12
      refine w_tup2 fun t12 G12 w12 m12 e12 => ?_
      repeat walk_at "rd"
      have r11 := r11.same w12
      have r12 : RowOk CF G12 (.ref t12) := ⟨t12, _, .fl (.fin 1 3602879701896397 (-55)), _, rfl, e12, ⟨x12, rfl, k12.same w12, by decide +kernel⟩, fun z' h => text_known (pl := (-1)) (by decide) (by decide +kernel) (by decide +kernel) h⟩
      refine w_tup2 fun t13 G13 w13 m13 e13 => ?_
      repeat walk_at "rd"
      have r11 := r11.same w13
      have r12 := r12.same w13
      have r13 : RowOk CF G13 (.ref t13) := ⟨t13, _, .int (-7), _, rfl, e13, ⟨rfl, by decide⟩, fun z' h => (show z' = _ from h).trans (by decide +kernel)⟩
      refine w_lstI (by show 3 ≤ 1000; decide) fun l13 L13 u13 v13 f13 => ?_
      repeat walk_at "rd"
      have sA := ((((s11.trans w11).trans s12).trans w12).trans w13).trans u13
      refine w_cat (sA _ _ hR) f13 (Nat.le_trans (show xs.length + 3 ≤ 100 by omega) (by decide)) fun c13 C13 y13 z13 g13 => ?_
      repeat walk_at "rd"
      refine ⟨sH.trans (sA.trans y13), c13, _, rfl, g13, by rw [List.length_append]; show xs.length + 3 ≤ _; omega, fun x hm => ?_⟩
      rcases List.mem_append.1 hm with hm | hm
      · exact (hx x hm).same (sA.trans y13)
      · simp only [List.mem_cons, List.not_mem_nil, or_false] at hm
        rcases hm with rfl | rfl | rfl
        · exact r11.same (u13.trans y13)
        · exact r12.same (u13.trans y13)
        · exact r13.same (u13.trans y13)
    rintro σ' H0 ⟨sH, R, xs, rfl, hR, hl, hx⟩
    repeat walk_at "rd"
    refine w_cut (Mid := fun σ' H' => Same H H' ∧ ∃ R xs, σ' = [some (.ref R), none] ∧ H' R = some (.lst xs) ∧ xs.length ≤ 16 ∧ ∀ x ∈ xs, RowOk CF H' x) ?_ ?_
    · repeat walk_at "rd"
      refine w_I ⟨by decide, by decide, by decide⟩ ?_
      repeat walk_at "rd"
      rw [show (10 : Int) ^ (15 : Int).toNat = 1000000000000000 by decide]
      refine ⟨"div", _, _, .int 1000000000000000, .int 1, rfl, .inr (.inr (.inr rfl)), .inl rfl, ⟨rfl, by decide⟩, ⟨rfl, by decide⟩, fun x14 H14 s14 k14 => ?_⟩
      rw [show ariM "div" (toF (.int 1000000000000000)) (toF (.int 1)) = .fin 1 30517578125 15 by decide +kernel] at k14
      repeat walk_at "rd"
      refine w_tup2 fun t14 G14 w14 m14 e14 => ?_
      repeat walk_at "rd"
      have r14 : RowOk CF G14 (.ref t14) := ⟨t14, _, .fl (.fin 1 30517578125 15), _, rfl, e14, ⟨x14, rfl, k14.same w14, by decide +kernel⟩, fun z' h => text_known (pl := 15) (by decide) (by decide +kernel) (by decide +kernel) h⟩
      refine w_I (cshl (i := 1) (j := 63) (by decide) (by decide) (by decide)) ?_
      repeat walk_at "rd"
      rw [show -((1 : Int) * 2 ^ (63 : Int).toNat) = -9223372036854775808 by decide]
      refine w_tup2 fun t15 G15 w15 m15 e15 => ?_
      repeat walk_at "rd"
      have r14 := r14.same w15
      have r15 : RowOk CF G15 (.ref t15) := ⟨t15, _, .int (-9223372036854775808), _, rfl, e15, ⟨rfl, by decide⟩, fun z' h => (show z' = _ from h).trans (by decide +kernel)⟩
      refine w_tup2 fun t16 G16 w16 m16 e16 => ?_
      repeat walk_at "rd"
      have r14 := r14.same w16
      have r15 := r15.same w16
      have r16 : RowOk CF G16 (.ref t16) := ⟨t16, _, .int 0, _, rfl, e16, ⟨rfl, by decide⟩, fun z' h => (show z' = _ from h).trans (by decide +kernel)⟩
      refine w_lstI (by show 3 ≤ 1000; decide) fun l16 L16 u16 v16 f16 => ?_
      repeat walk_at "rd"
      have sA := (((s14.trans w14).trans w15).trans w16).trans u16
      refine w_cat (sA _ _ hR) f16 (Nat.le_trans (show xs.length + 3 ≤ 100 by omega) (by decide)) fun c16 C16 y16 z16 g16 => ?_
      repeat walk_at "rd"
      refine ⟨sH.trans (sA.trans y16), c16, _, rfl, g16, by rw [List.length_append]; show xs.length + 3 ≤ _; omega, fun x hm => ?_⟩
      rcases List.mem_append.1 hm with hm | hm
      · exact (hx x hm).same (sA.trans y16)
      · simp only [List.mem_cons, List.not_mem_nil, or_false] at hm
        rcases hm with rfl | rfl | rfl
        · exact r14.same (u16.trans y16)
        · exact r15.same (u16.trans y16)
        · exact r16.same (u16.trans y16)
    rintro σ' H0 ⟨sH, R, xs, rfl, hR, hl, hx⟩
    repeat walk_at "rd"
    refine w_lcS ?_
    repeat walk_at "rd"
    refine w_iListI hR ?_
    intro D nD
    refine lc_list (xs := xs) (fun i H' => Same H0 H' ∧ H' D = some (.lst [])) ⟨same_upd nD, upd_same⟩ (fun i H' _ p => SqL.of (p.1 _ _ hR)) ?_ ?_
    · rintro i x Ha hi ⟨sa, ha⟩
      obtain ⟨q1, v, n, z, rfl, hq, hv, ht⟩ := (hx x (List.mem_of_getElem? hi)).same sa
      repeat walk_at "rd"
      refine ⟨rfl, ?_⟩
      repeat walk_at "rd"
      refine w_ixT hq (v := v) rfl ?_
      repeat walk_at "rd"
      refine ⟨v, n, rfl, hv, fun z' Hb sb hz => ?_⟩
      rw [ht z' hz]
      repeat walk_at "rd"
      refine w_ixT (sb _ _ hq) (v := .str z) rfl ?_
      repeat walk_at "rd"
      refine w_neS ?_
      rw [decide_eq_true rfl]
      repeat walk_at "rd"
      exact ⟨sa.trans sb, sb _ _ ha⟩
    rintro H1 ⟨s1, hD⟩
    repeat walk_at "rd"
    refine w_lstI (xs := []) (by decide) fun l4 H4 s4 n4 h4 => ?_
    refine ⟨D, l4, [], rfl, rfl, SqL.of (s4 _ _ hD), SqL.of h4, ?_⟩
    exact q H4 (sH.trans (s1.trans s4))
end
end Nu

set_option Elab.async false
set_option linter.all false
set_option maxRecDepth 100000
set_option autoImplicit false
set_option maxHeartbeats 4000000
set_option pp.maxSteps 900
namespace Nu
open PySem PySem.Spec PyProof.Rows L2 Rd Dg TL PySem.NumText
local macro_rules | `(tactic| walk_at "hp") => `(tactic| first | assumption | (refine same_get ?sm ?_; (case sm => assumption); walk_at "hp"))
local macro_rules | `(tactic| walk_at "rd") => `(tactic| first
  | (with_reducible show Ends.nx _ _ _; with_reducible refine w_nx ?_)
  | with_reducible refine w_rt ?_
  | (with_reducible show Ends.bk _ _ _; with_reducible refine w_bk ?_)
  | (with_reducible show Ends.ct _ _ _; with_reducible refine w_ct ?_)
  | with_reducible refine w_seq ?_
  | with_reducible refine w_next ?_
  | with_reducible refine w_ret ?_
  | with_reducible refine w_ifS ?_
  | with_reducible refine w_asg ?_
  | with_reducible refine w_name ?_
  | with_reducible refine w_par ?_
  | with_reducible refine w_parI ?_
  | with_reducible refine w_ii ?_
  | with_reducible refine w_i1 ?_
  | with_reducible refine w_drop ?_
  | with_reducible refine w_sFld ?_
  | ((with_reducible refine' w_var ?rdh ?_); (case rdh => exact rfl))
  | with_reducible refine w_c ?_
  | with_reducible refine w_op ?_
  | with_reducible refine w_un ?_
  | with_reducible refine w_I0 ?_
  | with_reducible refine w_U ?_
  | with_reducible refine w_bits ?_
  | with_reducible refine w_bitsI ?_
  | with_reducible refine w_tup ?_
  | with_reducible refine w_lst ?_
  | with_reducible refine w_nil ?_
  | with_reducible refine w_cons ?_
  | with_reducible refine w_fld ?_
  | with_reducible refine w_call ?_
  | with_reducible refine w_make ?_
  | with_reducible refine w_gsub ?_
  | with_reducible refine w_int1 ?_
  | with_reducible refine w_intB ?_
  | with_reducible refine w_for ?_
  | with_reducible refine w_rng1 ?_
  | with_reducible refine w_iList ?_
  | with_reducible refine w_iTup ?_
  | with_reducible refine w_makeD ?_
  | with_reducible refine w_nn ?_
  | with_reducible refine w_subB ?_
  | with_reducible refine w_meth ?_
  | with_reducible refine w_cb ?_
  | with_reducible refine w_test ?_
  | with_reducible refine w_B ?_
  | with_reducible refine w_bl ?_
  | with_reducible refine w_andV ?_
  | with_reducible refine w_orV ?_
  | with_reducible refine w_notV ?_
  | with_reducible refine w_and ?_
  | with_reducible refine w_or ?_
  | with_reducible refine w_not ?_
  | with_reducible refine w_if ?_
  | with_reducible refine w_gnil ?_
  | with_reducible refine w_gcons ?_
  | with_reducible refine iT ?_
  | with_reducible refine iF ?_
  | with_reducible refine w_eqI ?_
  | with_reducible refine w_neI ?_
  | with_reducible refine w_eqS ?_
  | with_reducible refine w_eqIS ?_
  | with_reducible refine w_eqSI ?_)

abbrev s_law : Stmt := top 51
theorem bits_ab {n : Int} {k : Nat} (h0 : -2 ^ k < n) (h : n < 2 ^ k) : bits n ≤ k := bits_le.2 (by have := pow_cast k; omega)
theorem FlAt.othW {C : Addr} {H H' : Hp} {a p : Addr} {f : Fl} {n : Nat} (h : FlAt C H a f) (o : Oth p H H') (w : Well n H p) : FlAt C H' a f := by
  obtain ⟨dx, e⟩ := h
  obtain ⟨_, _, _, ew, _⟩ := w
  exact ⟨dx, o _ _ (fun z => by rw [z, ew] at e; cases e) e⟩
section
variable {P : Program} {w : World} {K : PySem.W.Frag} {mg : Str → Option Value} {base : Heap} {CF : Addr}
theorem u_flt {p : Addr} {n : Nat} {H : Hp} {Q : VK} {E : XK} (hw : Well n H p) (hn : n < 700000) (q : ∀ x f H', Oth p H H' → Well (n + 50) H' p → FlAt CF H' x f → f.ok → Q (.ref x) H') : spFlt CF ([V.ref p] ++ []) H Q E := ⟨p, n, rfl, hw, hn, q⟩
theorem toF_ok {H : Hp} {x : V} {n : Nm} (h : NmAt CF H x n) : (toF n).ok := by
  cases n with
  | int i => exact nearM_ok (sgn_pm i) (abs_nn i) (by decide)
  | fl f => exact h.choose_spec.2.2
theorem u_ari {wd : Str} {x y : V} {n m : Nm} {H : Hp} {Q : VK} {E : XK} (h4 : Four wd) (hc : wd = "div" ∨ isFl n = true ∨ isFl m = true) (hx : NmAt CF H x n) (hy : NmAt CF H y m) (q : ∀ a f H', Same H H' → FlAt CF H' a f → f.ok → Q (.ref a) H') : spAri CF ([V.str wd, x, y] ++ []) H Q E :=
  ⟨wd, x, y, n, m, rfl, h4, hc, hx, hy, fun a H' s h => q a _ H' s h (ariM_ok (toF_ok hx) (toF_ok hy))⟩
def spLaw (K : PySem.W.Frag) : Sp := fun vs H Q _ => ∃ (a : Addr) (ns : List Int), vs = [.ref a] ∧ SqL K H a (ns.map V.int) ∧ ns.length ≤ 63 ∧ (∀ z ∈ ns, bits z ≤ 1048576) ∧ ∀ H', Q (.bl true) H'
theorem sc_law : FnScope ["script", "cell", "well", "turn", "near", "far", "some", "number", "whole"] ["script"] (defScope s_law) := ⟨rfl, rfl, rfl, by decide +kernel, rfl, by decide +kernel, by decide +kernel⟩
theorem ok_law (T : AllS K mg CF) (k_law_well : Kn P w K mg base CX0 1 "_law_well" ["cell"] spWell) (k_law_one : Kn P w K mg base CX0 2 "_law_one" ["well", "some"] spOne) (k_law_great : Kn P w K mg base CX0 2 "_law_great" ["well", "bits"] spGreat) (k_law_float : Kn P w K mg base CX0 4 "_law_float" ["well"] (spFlt CF))
    (k_arith : Kn P w K mg base CX0 8 "arith" ["word", "one", "other"] (spAri CF)) (k_law_right : Kn P w K mg base CX0 5 "_law_right" ["number"] (spRightT CF)) (k_text_of : Kn P w K mg base CX0 4 "text_of" ["number"] (spText CF)) (k_law_known_right : Kn P w K mg base CX0 9 "_law_known_right" [] spKnown)
    {f : Addr} {fd : FuncData} (F : Fun K "law" "law" s_law f fd) : FnOk P w K mg base CX0 12 f fd ["script"] (spLaw K) := by
  refine F.ok sc_law (fun vs H Q E h => ?_) (fun cdv A outer s H vs Q E hr h => ?_)
  · obtain ⟨a, ns, rfl, _⟩ := h
    rfl
  · obtain ⟨a, ns, rfl, hS, hl, hb, q⟩ := h
    refine ⟨_, (pss_cons (ps_for PassesOwn.never rfl (pi_list (pe_slice sl_list (pe_op op_catS (pv 0) (pe_lst (pa_cons pe_int pa_nil))) po_none (po_some pe_int))) (pg_name (i := 1) sc_law.nd rfl (Or.inl rfl))
      (pss_cons (ps_set (i := 2) sc_law.nd rfl (Or.inl rfl) (pk k_law_well hr (pa_cons (pv 1) pa_nil)))
      (pss_cons (ps_for PassesOwn.never rfl (pi_range1 rfl T.b_range (pa_cons pe_int pa_nil)) (pg_name (i := 3) sc_law.nd rfl (Or.inl rfl))
      (pss_cons (ps_set (i := 4) sc_law.nd rfl (Or.inl rfl) (pk k_arith hr (pa_cons pe_str (pa_cons (pk k_law_great hr (pa_cons (pv 2) (pa_cons (pk k_law_one hr (pa_cons (pv 2) (pa_cons (pe_lst (pa_cons pe_int (pa_cons pe_int (pa_cons pe_int pa_nil)))) pa_nil))) pa_nil))) (pa_cons (pk k_law_one hr (pa_cons (pv 2) (pa_cons (pe_lst (pa_cons pe_int (pa_cons pe_int (pa_cons pe_int (pa_cons (pe_op op_pow pe_int pe_int) pa_nil))))) pa_nil))) pa_nil)))))
      (pss_cons (ps_set (i := 5) sc_law.nd rfl (Or.inl rfl) (pk k_arith hr (pa_cons pe_str (pa_cons (pv 4) (pa_cons (pk k_arith hr (pa_cons pe_str (pa_cons (pe_op op_pow pe_int pe_int) (pa_cons (pk k_law_one hr (pa_cons (pv 2) (pa_cons (pe_lst (pa_cons pe_int (pa_cons (pe_op op_pow pe_int pe_int) (pa_cons (pe_op op_pow pe_int pe_int) pa_nil)))) pa_nil))) pa_nil)))) pa_nil)))))
      (pss_cons (ps_set (i := 6) sc_law.nd rfl (Or.inl rfl) (pe_lst (pa_cons (pk k_law_float hr (pa_cons (pv 2) pa_nil)) (pa_cons (pv 4) (pa_cons (pv 5) (pa_cons (pk k_arith hr (pa_cons pe_str (pa_cons (pv 4) (pa_cons (pe_op op_pow pe_int pe_int) pa_nil)))) pa_nil))))))
      (pss_one (ps_if (pt_cmpR (op_neNil hr.units64S) (pe_lc (own := [("number", 7)]) (g := (gName 7)) (tt := _) rfl sc_law.nd (pi_list (pv 6)) (blkOk_by (N := ["script", "cell", "well", "turn", "near", "far", "some", "number", "whole"]) (sc := defScope s_law) (by decide +kernel)) (fun _ _ _ _ _ => (pg_name (i := 7) sc_law.nd rfl (Or.inl rfl))) (fun _ _ _ _ _ => pts_one (pt_not (pt_val (pk k_law_right hr (pa_cons (pv 7) pa_nil))))) (fun _ _ _ _ _ => (pv 7))) (pe_lst pa_nil) (nomark _)) (pss_one (ps_ret pe_bl)) pss_nil))))))
      (pss_cons (ps_set (i := 8) sc_law.nd rfl (Or.inl rfl) (pe_op op_sub (pk k_law_great hr (pa_cons (pv 2) (pa_cons pe_int pa_nil))) (pe_op op_shlW pe_int pe_int)))
      (pss_one (ps_if (pt_cmpR op_ne (pk k_text_of hr (pa_cons (pv 8) pa_nil)) (pe_callTy call_str_int (by rfl) T.b_str boot_str (pa_cons (pv 8) pa_nil)) (nomark _)) (pss_one (ps_ret pe_bl)) pss_nil))))))
      (pss_one (ps_ret (pk0 k_law_known_right hr)))), ?_⟩
    repeat walk_at "rd"
    refine w_sl ?_
    repeat walk_at "rd"
    refine w_lst1 fun b1 H1 s1 n1 h1 => ?_
    refine w_catS (hS.same s1) h1 (by rw [List.length_map]; exact Nat.le_trans (Nat.add_le_add_right hl _) (by show 63 + 1 ≤ sizeLine; decide)) fun b2 H2 s2 n2 h2 => ?_
    refine w_noPart ?_
    refine w_part ?_
    repeat walk_at "rd"
    refine w_slL h2 fun L H3 s3 n3 h3 => ?_
    refine w_iListI h3 ?_
    have hx : ∀ x ∈ cutV (ns.map V.int ++ [V.int 0]) none (some 8), ∃ z, x = .int z ∧ bits z ≤ 1048576 := by
      intro x hx
      have := cut_mem hx
      simp only [List.mem_append, List.mem_map, List.mem_cons, List.not_mem_nil, or_false] at this
      rcases this with ⟨z, hz, rfl⟩ | rfl
      · exact ⟨z, rfl, hb z hz⟩
      · exact ⟨0, rfl, by decide⟩
    generalize cutV (ns.map V.int ++ [V.int 0]) none (some 8) = xs at h3 hx
    refine for_list (xs := xs) (fun _ σ H' => ∃ c w t u1 u2 u3 u4 u5, σ = [some (.ref a), c, w, t, u1, u2, u3, u4, u5] ∧ H' L = some (.lst xs)) ⟨_, _, _, _, _, _, _, _, rfl, h3⟩ (fun i σ H' _ ⟨_, _, _, _, _, _, _, _, _, h⟩ => SqL.of h) ?_ ?_
    · rintro i x σ H4 hi ⟨c, w1, tt, u1, u2, u3, u4, u5, rfl, h4⟩
      obtain ⟨z, rfl, hz⟩ := hx x (List.mem_of_getElem? hi)
      repeat walk_at "rd"
      refine ⟨z, rfl, hz, fun p H5 s5 n5 w5 => ?_⟩
      have neL : L ≠ p := ne_of_none h4 n5
      have h5 := s5 _ _ h4
      repeat walk_at "rd"
      refine ⟨by decide, by decide, ?_⟩
      refine for_range (lo := 0) (fun i σ H' => ∃ tt u1 u2 u3 u4 u5, σ = [some (.ref a), some (.int z), some (.ref p), tt, u1, u2, u3, u4, u5] ∧ H' L = some (.lst xs) ∧ Well (i * 1000) H' p) ⟨_, _, _, _, _, _, rfl, h5, w5⟩ ?_ ?_
      · rintro k σ H6 hk ⟨t6, v1, v2, v3, v4, v5, rfl, hL6, w6⟩
        have hk : k < 5 := hk
        repeat walk_at "rd"
        refine w_lst3 fun l7 H7 s7 n7 h7 => ?_
        have w7 := w6.same s7
        have hL7 := s7 _ _ hL6
        repeat walk_at "rd"
        refine u_one w7 (by omega) h7 (fun e => by rw [e] at n7; obtain ⟨_, _, _, e2, _⟩ := w6; rw [e2] at n7; cases n7) (by show 0 < 3; decide) (by show 3 ≤ 1000; decide) fun v8 H8 hv8 o8 w8 => ?_
        have hL8 := o8 _ _ neL hL7
        obtain ⟨b8, rfl, b80, b81⟩ : ∃ b : Int, v8 = .int b ∧ 0 ≤ b ∧ b ≤ 50 := by
          simp only [List.mem_cons, List.not_mem_nil, or_false] at hv8
          rcases hv8 with rfl | rfl | rfl <;> exact ⟨_, rfl, by decide, by decide⟩
        repeat walk_at "rd"
        refine u_great w8 (by omega) b80 (by omega) fun r9 H9 o9 w9 r90 r91 => ?_
        have hL9 := o9 _ _ neL hL8
        have b9 : bits r9 ≤ 70 := Int.le_trans ((bits_lt_pow r90).2 r91) (by omega)
        repeat walk_at "rd"
        refine w_I ⟨by decide, by decide, by decide⟩ ?_
        repeat walk_at "rd"
        refine w_lst4 fun l10 H10 s10 n10 h10 => ?_
        have w10 := w9.same s10
        have hL10 := s10 _ _ hL9
        repeat walk_at "rd"
        refine u_one w10 (by omega) h10 (fun e => by rw [e] at n10; obtain ⟨_, _, _, e2, _⟩ := w9; rw [e2] at n10; cases n10) (by show 0 < 4; decide) (by show 4 ≤ 1000; decide) fun v11 H11 hv11 o11 w11 => ?_
        have hL11 := o11 _ _ neL hL10
        obtain ⟨i11, rfl, N11⟩ : ∃ i : Int, v11 = .int i ∧ bits i ≤ 70 := by
          simp only [List.mem_cons, List.not_mem_nil, or_false] at hv11
          rcases hv11 with rfl | rfl | rfl | rfl <;> exact ⟨_, rfl, by decide⟩
        repeat walk_at "rd"
        refine u_ari (n := .int r9) (.inr (.inr (.inr rfl))) (.inl rfl) ⟨rfl, b9⟩ (m := .int i11) ⟨rfl, N11⟩ fun x12 f12 H12 s12 k12 ok12 => ?_
        have hL12 := s12 _ _ hL11
        have w12 := w11.same s12
        repeat walk_at "rd"
        refine w_I ⟨by decide, by decide, by decide⟩ ?_
        repeat walk_at "rd"
        refine w_I ⟨by decide, by decide, by decide⟩ ?_
        repeat walk_at "rd"
        refine w_I ⟨by decide, by decide, by decide⟩ ?_
        repeat walk_at "rd"
        refine w_lst3 fun l13 H13 s13 n13 h13 => ?_
        have w13 := w12.same s13
        have hL13 := s13 _ _ hL12
        repeat walk_at "rd"
        refine u_one w13 (by omega) h13 (fun e => by rw [e] at n13; obtain ⟨_, _, _, e2, _⟩ := w12; rw [e2] at n13; cases n13) (by show 0 < 3; decide) (by show 3 ≤ 1000; decide) fun v14 H14 hv14 o14 w14 => ?_
        have hL14 := o14 _ _ neL hL13
        have k14 := (k12.same s13).othW o14 w13
        obtain ⟨i14, rfl, N14⟩ : ∃ i : Int, v14 = .int i ∧ bits i ≤ 70 := by
          simp only [List.mem_cons, List.not_mem_nil, or_false] at hv14
          rcases hv14 with rfl | rfl | rfl <;> exact ⟨_, rfl, by decide⟩
        repeat walk_at "rd"
        refine u_ari (n := .int (10 ^ (18 : Int).toNat)) (.inr (.inr (.inr rfl))) (.inl rfl) ⟨rfl, by decide⟩ (m := .int i14) ⟨rfl, N14⟩ fun x15 f15 H15 s15 k15 ok15 => ?_
        have hL15 := s15 _ _ hL14
        have w15 := w14.same s15
        repeat walk_at "rd"
        refine u_ari (n := .fl f12) (m := .fl f15) (.inr (.inr (.inl rfl))) (.inr (.inl rfl)) ⟨x12, rfl, k14.same s15, ok12⟩ ⟨x15, rfl, k15, ok15⟩ fun x16 f16 H16 s16 k16 ok16 => ?_
        have hL16 := s16 _ _ hL15
        have w16 := w15.same s16
        have k16b := (k14.same s15).same s16
        repeat walk_at "rd"
        refine u_flt w16 (by omega) fun x17 f17 H17 o17 w17 k17 ok17 => ?_
        have hL17 := o17 _ _ neL hL16
        have k16 := k16.othW o17 w16
        have k12 := k16b.othW o17 w16
        repeat walk_at "rd"
        refine w_I ⟨by decide, by decide, by decide⟩ ?_
        repeat walk_at "rd"
        refine u_ari (n := .fl f12) (m := .int (10 ^ (18 : Int).toNat)) (.inr (.inr (.inr rfl))) (.inl rfl) ⟨x12, rfl, k12, ok12⟩ ⟨rfl, by decide⟩ fun x18 f18 H18 s18 k18 ok18 => ?_
        have hL18 := s18 _ _ hL17
        have w18 := w17.same s18
        repeat walk_at "rd"
        refine w_lst4 fun l19 H19 s19 n19 h19 => ?_
        have hL19 := s19 _ _ hL18
        have w19 := w18.same s19
        have hfl : ∀ x ∈ [V.ref x17, .ref x12, .ref x16, .ref x18], ∃ b f, x = .ref b ∧ FlAt CF H19 b f ∧ f.ok := fun x hx => by
          simp only [List.mem_cons, List.not_mem_nil, or_false] at hx
          rcases hx with rfl | rfl | rfl | rfl
          · exact ⟨_, _, rfl, (k17.same s18).same s19, ok17⟩
          · exact ⟨_, _, rfl, (k12.same s18).same s19, ok12⟩
          · exact ⟨_, _, rfl, (k16.same s18).same s19, ok16⟩
          · exact ⟨_, _, rfl, k18.same s19, ok18⟩
        repeat walk_at "rd"
        refine w_lcS ?_
        repeat walk_at "rd"
        refine w_iListI h19 ?_
        intro D nD
        refine lc_list (xs := [V.ref x17, .ref x12, .ref x16, .ref x18]) (fun i H' => Same H19 H' ∧ H' D = some (.lst [])) ⟨same_upd nD, upd_same⟩ (fun i H' _ p => SqL.of (p.1 _ _ h19)) ?_ ?_
        · rintro i x Ha hi ⟨sa, ha⟩
          obtain ⟨b, f, rfl, kb, okb⟩ := hfl x (List.mem_of_getElem? hi)
          repeat walk_at "rd"
          refine ⟨rfl, ?_⟩
          repeat walk_at "rd"
          refine ⟨b, f, rfl, kb.same sa, okb, fun Hb sb => ?_⟩
          repeat walk_at "rd"
          exact ⟨sa.trans sb, sb _ _ ha⟩
        rintro H20 ⟨s20, hD⟩
        repeat walk_at "rd"
        refine w_lstI (xs := []) (by decide) fun l21 H21 s21 n21 h21 => ?_
        refine w_neNil (SqL.of (s21 _ _ hD)) h21 ?_
        repeat walk_at "rd"
        refine iF ?_
        repeat walk_at "rd"
        have s1921 := s20.trans s21
        exact ⟨_, _, _, _, _, _, rfl, s1921 _ _ hL19, (w19.same s1921).mono (by omega)⟩
      · rintro σ H6 ⟨t6, v1, v2, v3, v4, v5, rfl, hL6, w6⟩
        have w6 : Well 5000 H6 p := w6
        repeat walk_at "rd"
        refine u_great w6 (by omega) (by decide) (by decide) fun r9 H9 o9 w9 r90 r91 => ?_
        have hL9 := o9 _ _ neL hL6
        repeat walk_at "rd"
        refine w_I (cshl (i := 1) (j := 63) (by decide) (by decide) (by decide)) ?_
        repeat walk_at "rd"
        have r92 : r9 < 18446744073709551616 := r91
        have bW : bits (r9 - 1 * 2 ^ (63 : Int).toNat) ≤ 70 := by
          have e : (1 : Int) * 2 ^ (63 : Int).toNat = 9223372036854775808 := by decide
          rw [e]
          exact bits_ab (k := 70) (by have : (2 : Int) ^ 70 = 1180591620717411303424 := by decide
                                      omega) (by have : (2 : Int) ^ 70 = 1180591620717411303424 := by decide
                                                 omega)
        generalize r9 - 1 * 2 ^ (63 : Int).toNat = W at bW
        repeat walk_at "rd"
        refine ⟨.int W, .int W, rfl, ⟨rfl, bW⟩, fun zz H10 s10 hz => ?_⟩
        obtain rfl : zz = Str.ofString (toString W) := hz
        repeat walk_at "rd"
        refine ⟨log_ok (by omega), ?_⟩
        repeat walk_at "rd"
        refine w_neS ?_
        rw [decide_eq_true rfl]
        repeat walk_at "rd"
        refine iF ?_
        repeat walk_at "rd"
        exact ⟨_, _, _, _, _, _, _, _, rfl, s10 _ _ hL9⟩
    · rintro σ' H4 ⟨c, w1, tt, u1, u2, u3, u4, u5, rfl, h4⟩
      repeat walk_at "rd"
      exact ⟨rfl, fun H5 s5 => q H5⟩
end
end Nu

set_option Elab.async false
set_option linter.all false
set_option maxRecDepth 100000
set_option autoImplicit false
set_option maxHeartbeats 4000000
namespace Nu
open PySem PySem.Spec PyProof.Rows L2 Rd
theorem ok_all {P : Program} {w : World} {K : PySem.W.Frag} {mg : Str → Option Value} {base : Heap} {CF : Addr} (T : AllS K mg CF) {f : Addr} {fd : FuncData} (F : Fun K "law" "law" s_law f fd) : FnOk P w K mg base CX0 20 f fd ["script"] (spLaw K) := by
  have A := T.toAll
  have k1 := ok_is_plain (P := P) (w := w) (base := base) A
  have k2 := ok_reduced (P := P) (w := w) (base := base) A
  have k3 := ok_fits (P := P) (w := w) (base := base) A
  have k4 := ok_sign_of (P := P) (w := w) (base := base) A
  have k5 := ok_init (P := P) (w := w) (base := base) A k1 k2 k3
  have k6 := ok_infinity (P := P) (w := w) (base := base) A k5
  have k7 := ok_nearest (P := P) (w := w) (base := base) A k5 k6
  have k9 := ok_ratio (P := P) (w := w) (base := base) A
  have k11 := ok_to_float (P := P) (w := w) (base := base) A k4 k7
  have k18 := ok_well (P := P) (w := w) (base := base) T.toAllL
  have k19 := ok_draw (P := P) (w := w) (base := base) T.toAllL
  have k20 := ok_one (P := P) (w := w) (base := base) T.toAllL k19
  have k21 := ok_great (P := P) (w := w) (base := base) T.toAllL k19
  have k22 := ok_finite (P := P) (w := w) (base := base) T.toAllM k19 k20 k21
  have k23 := ok_float (P := P) (w := w) (base := base) T.toAllM k19 k20 k22 k5
  have k24 := ok_nan (P := P) (w := w) (base := base) T.toAllN k5
  have k25 := ok_added (P := P) (w := w) (base := base) T.toAllN k24 k5 k9 k4 k7
  have e1 := ok_eq (P := P) (w := w) (base := base) T.toAllN
  have n2 := ok_multiplied (P := P) (w := w) (base := base) T.toAllN k24 k6 k9 k7
  have n3 := ok_divided (P := P) (w := w) (base := base) T.toAllN k24 k6 k9 k5 k7
  have k26 := ok_by_floats (P := P) (w := w) (base := base) T.toAllN k24 k25 n2 n3 k5
  have k27 := ok_arith (P := P) (w := w) (base := base) T.toAllN k26 k11
  have S1 := ok_ten_times (P := P) (w := w) (base := base) T
  have S2 := ok_place (P := P) (w := w) (base := base) T S1
  have S3 := ok_round (P := P) (w := w) (base := base) T S1
  have S4 := ok_shown (P := P) (w := w) (base := base) T k9 S2 S3
  have S5 := ok_text_of (P := P) (w := w) (base := base) T k5 S4
  have S6 := ok_parts (P := P) (w := w) (base := base) T
  have S7 := ok_tens (P := P) (w := w) (base := base) T
  have S8 := ok_is_shown (P := P) (w := w) (base := base) T S6 S7
  have S9 := ok_right (P := P) (w := w) (base := base) T S5 S8
  have S10 := ok_known (P := P) (w := w) (base := base) T k5 k27 S5
  exact (ok_law T k18 k20 k21 k23 k27 S9 S5 S10 F).mono (by decide)
theorem fin_mk {l : PySem.W.OpenLaw} {w : World} {K : PySem.W.Frag} {h : Heap} {mg : Str → Option Value} {fa : Addr} (X : K.In h) (G : h.Ns mainGlobals mg) (hfa : mg "law" = some (.ref fa))
    {t_LEAST : Tok}
    {t_MOST : Tok}
    {t_ROOM : Tok}
    {t_LOWEST : Tok}
    {t_TOO_GREAT : Tok}
    {t_SHOWN : Tok}
    {CF : Addr}
    {f1 : Addr} {od1 an1 : Option Addr} {sl1 : Array (Option Value)} {oc1 dc1 pm1 cd1 ct1 kV1 : Value}
    {f2 : Addr} {od2 an2 : Option Addr} {sl2 : Array (Option Value)} {oc2 dc2 pm2 cd2 ct2 kV2 : Value}
    {f3 : Addr} {od3 an3 : Option Addr} {sl3 : Array (Option Value)} {oc3 dc3 pm3 cd3 ct3 kV3 : Value}
    {f4 : Addr} {od4 an4 : Option Addr} {sl4 : Array (Option Value)} {oc4 dc4 pm4 cd4 ct4 kV4 : Value}
    {f5 : Addr} {od5 an5 : Option Addr} {sl5 : Array (Option Value)} {oc5 dc5 pm5 cd5 ct5 kV5 : Value}
    {f6 : Addr} {od6 an6 : Option Addr} {sl6 : Array (Option Value)} {oc6 dc6 pm6 cd6 ct6 kV6 : Value}
    {f7 : Addr} {od7 an7 : Option Addr} {sl7 : Array (Option Value)} {oc7 dc7 pm7 cd7 ct7 kV7 : Value}
    {f8 : Addr} {od8 an8 : Option Addr} {sl8 : Array (Option Value)} {oc8 dc8 pm8 cd8 ct8 kV8 : Value}
    {f9 : Addr} {od9 an9 : Option Addr} {sl9 : Array (Option Value)} {oc9 dc9 pm9 cd9 ct9 kV9 : Value}
    {f10 : Addr} {od10 an10 : Option Addr} {sl10 : Array (Option Value)} {oc10 dc10 pm10 cd10 ct10 kV10 : Value}
    {f11 : Addr} {od11 an11 : Option Addr} {sl11 : Array (Option Value)} {oc11 dc11 pm11 cd11 ct11 kV11 : Value}
    {f12 : Addr} {od12 an12 : Option Addr} {sl12 : Array (Option Value)} {oc12 dc12 pm12 cd12 ct12 kV12 : Value}
    {f13 : Addr} {od13 an13 : Option Addr} {sl13 : Array (Option Value)} {oc13 dc13 pm13 cd13 ct13 kV13 : Value}
    {f14 : Addr} {od14 an14 : Option Addr} {sl14 : Array (Option Value)} {oc14 dc14 pm14 cd14 ct14 kV14 : Value}
    {f15 : Addr} {od15 an15 : Option Addr} {sl15 : Array (Option Value)} {oc15 dc15 pm15 cd15 ct15 kV15 : Value}
    {f16 : Addr} {od16 an16 : Option Addr} {sl16 : Array (Option Value)} {oc16 dc16 pm16 cd16 ct16 kV16 : Value}
    {f17 : Addr} {od17 an17 : Option Addr} {sl17 : Array (Option Value)} {oc17 dc17 pm17 cd17 ct17 kV17 : Value}
    {f18 : Addr} {od18 an18 : Option Addr} {sl18 : Array (Option Value)} {oc18 dc18 pm18 cd18 ct18 kV18 : Value}
    {f19 : Addr} {od19 an19 : Option Addr} {sl19 : Array (Option Value)} {oc19 dc19 pm19 cd19 ct19 kV19 : Value}
    {f20 : Addr} {od20 an20 : Option Addr} {sl20 : Array (Option Value)} {oc20 dc20 pm20 cd20 ct20 kV20 : Value}
    {f21 : Addr} {od21 an21 : Option Addr} {sl21 : Array (Option Value)} {oc21 dc21 pm21 cd21 ct21 kV21 : Value}
    {f22 : Addr} {od22 an22 : Option Addr} {sl22 : Array (Option Value)} {oc22 dc22 pm22 cd22 ct22 kV22 : Value}
    {f23 : Addr} {od23 an23 : Option Addr} {sl23 : Array (Option Value)} {oc23 dc23 pm23 cd23 ct23 kV23 : Value}
    {f24 : Addr} {od24 an24 : Option Addr} {sl24 : Array (Option Value)} {oc24 dc24 pm24 cd24 ct24 kV24 : Value}
    {f25 : Addr} {od25 an25 : Option Addr} {sl25 : Array (Option Value)} {oc25 dc25 pm25 cd25 ct25 kV25 : Value}
    {f26 : Addr} {od26 an26 : Option Addr} {sl26 : Array (Option Value)} {oc26 dc26 pm26 cd26 ct26 kV26 : Value}
    {f27 : Addr} {od27 an27 : Option Addr} {sl27 : Array (Option Value)} {oc27 dc27 pm27 cd27 ct27 kV27 : Value}
    {f28 : Addr} {od28 an28 : Option Addr} {sl28 : Array (Option Value)} {oc28 dc28 pm28 cd28 ct28 kV28 : Value}
    {f29 : Addr} {od29 an29 : Option Addr} {sl29 : Array (Option Value)} {oc29 dc29 pm29 cd29 ct29 kV29 : Value}
    {f30 : Addr} {od30 an30 : Option Addr} {sl30 : Array (Option Value)} {oc30 dc30 pm30 cd30 ct30 kV30 : Value}
    {f31 : Addr} {od31 an31 : Option Addr} {sl31 : Array (Option Value)} {oc31 dc31 pm31 cd31 ct31 kV31 : Value}
    {f32 : Addr} {od32 an32 : Option Addr} {sl32 : Array (Option Value)} {oc32 dc32 pm32 cd32 ct32 kV32 : Value}
    {f33 : Addr} {od33 an33 : Option Addr} {sl33 : Array (Option Value)} {oc33 dc33 pm33 cd33 ct33 kV33 : Value}
    {f34 : Addr} {od34 an34 : Option Addr} {sl34 : Array (Option Value)} {oc34 dc34 pm34 cd34 ct34 kV34 : Value}
    {f35 : Addr} {od35 an35 : Option Addr} {sl35 : Array (Option Value)} {oc35 dc35 pm35 cd35 ct35 kV35 : Value}
    {f36 : Addr} {od36 an36 : Option Addr} {sl36 : Array (Option Value)} {oc36 dc36 pm36 cd36 ct36 kV36 : Value}
    {f37 : Addr} {od37 an37 : Option Addr} {sl37 : Array (Option Value)} {oc37 dc37 pm37 cd37 ct37 kV37 : Value}
    
    (b_isinstance : PySem.W.nsIn K mainGlobals "isinstance" = some none)
    (b_int : PySem.W.nsIn K mainGlobals "int" = some none)
    (b_str : PySem.W.nsIn K mainGlobals "str" = some none)
    (b_bool : PySem.W.nsIn K mainGlobals "bool" = some none)
    (b_abs : PySem.W.nsIn K mainGlobals "abs" = some none)
    (b_max : PySem.W.nsIn K mainGlobals "max" = some none)
    (b_min : PySem.W.nsIn K mainGlobals "min" = some none)
    (b_divmod : PySem.W.nsIn K mainGlobals "divmod" = some none)
    (b_len : PySem.W.nsIn K mainGlobals "len" = some none)
    (b_range : PySem.W.nsIn K mainGlobals "range" = some none)
    (c_LEAST : PySem.W.nsIn K mainGlobals "LEAST" = some (some (.int (-9223372036854775808) t_LEAST)))
    (c_MOST : PySem.W.nsIn K mainGlobals "MOST" = some (some (.int (9223372036854775807) t_MOST)))
    (c_ROOM : PySem.W.nsIn K mainGlobals "ROOM" = some (some (.int (9007199254740992) t_ROOM)))
    (c_LOWEST : PySem.W.nsIn K mainGlobals "LOWEST" = some (some (.int (-1074) t_LOWEST)))
    (c_TOO_GREAT : PySem.W.nsIn K mainGlobals "TOO_GREAT" = some (some (.int (1024) t_TOO_GREAT)))
    (c_SHOWN : PySem.W.nsIn K mainGlobals "SHOWN" = some (some (.int (14) t_SHOWN)))
    (g_Float : PySem.W.nsIn K mainGlobals "Float" = some (some (.ref CF)))
    (pg_Float : PySem.W.plainGet K CF Str.empty = true)
    (hd_Float : PySem.W.hasDictIn K CF = true)
    (po_Float : PySem.W.plainOver K CF = true)
    (sa_Float : PySem.W.findIn K (.ref CF) "__setattr__" = some (some (.builtin "object.__setattr__")))
    (yc_Float : PySem.W.findIn K (.ref CF) "__class__" = some (some (.builtin "object.__class__")))
    (ym_Float : PySem.W.mroIn K CF (.type "object") = some true)
    (n_sign : PySem.W.findIn K (.ref CF) "sign" = some none)
    (n_top : PySem.W.findIn K (.ref CF) "top" = some none)
    (n_power : PySem.W.findIn K (.ref CF) "power" = some none)
    (i_Fint : PySem.W.kitOne K (.ref CF) (.type "int") = some false)
    (i_Fbool : PySem.W.kitOne K (.ref CF) (.type "bool") = some false)
    (i_Fstr : PySem.W.kitOne K (.ref CF) (.type "str") = some false)
    (i_intF : PySem.W.kitOne K (.type "int") (.ref CF) = some false)
    (i_boolF : PySem.W.kitOne K (.type "bool") (.ref CF) = some false)
    (i_strF : PySem.W.kitOne K (.type "str") (.ref CF) = some false)
    (i_nonF : PySem.W.kitOne K (.type "NoneType") (.ref CF) = some false)
    (mk_Float : PySem.W.makesIn K CF = true)
    (kc_Float : PySem.W.keepIn K (.ref CF) = true)
    (y_spec : PySem.W.specialIn K (.builtin "object.__class__") "__get__" = some (some (.builtin "getset_descriptor.__get__")))
    (y_takes : PySem.W.takesIn K (.builtin "object.__class__") = some true)
    (a1 : PySem.W.findIn K (.ref CF) "__init__" = some (some (.ref f1)))
    (l1 : K.lookup f1 = some ⟨oc1, od1, .func (PySem.W.fnOf "__init__" "Float.__init__" (defArgs s_Float_init) (defBody s_Float_init) (defScope s_Float_init) .none kV1 dc1 pm1 an1 cd1 ct1), sl1⟩)
    (c1 : PySem.W.codeIn K cd1 "Float.__init__" = true)
    (k1 : PySem.W.keepIn K (.ref f1) = true)
    (i1 : PySem.W.isFn K (.ref f1) = true)
    (a2 : PySem.W.findIn K (.ref CF) "is_finite" = some (some (.ref f2)))
    (l2 : K.lookup f2 = some ⟨oc2, od2, .func (PySem.W.fnOf "is_finite" "Float.is_finite" (defArgs s_Float_is_finite) (defBody s_Float_is_finite) (defScope s_Float_is_finite) .none kV2 dc2 pm2 an2 cd2 ct2), sl2⟩)
    (c2 : PySem.W.codeIn K cd2 "Float.is_finite" = true)
    (k2 : PySem.W.keepIn K (.ref f2) = true)
    (i2 : PySem.W.isFn K (.ref f2) = true)
    (a3 : PySem.W.findIn K (.ref CF) "ratio" = some (some (.ref f3)))
    (l3 : K.lookup f3 = some ⟨oc3, od3, .func (PySem.W.fnOf "ratio" "Float.ratio" (defArgs s_Float_ratio) (defBody s_Float_ratio) (defScope s_Float_ratio) .none kV3 dc3 pm3 an3 cd3 ct3), sl3⟩)
    (c3 : PySem.W.codeIn K cd3 "Float.ratio" = true)
    (k3 : PySem.W.keepIn K (.ref f3) = true)
    (i3 : PySem.W.isFn K (.ref f3) = true)
    (a4 : PySem.W.findIn K (.ref CF) "__eq__" = some (some (.ref f4)))
    (l4 : K.lookup f4 = some ⟨oc4, od4, .func (PySem.W.fnOf "__eq__" "Float.__eq__" (defArgs s_Float_eq) (defBody s_Float_eq) (defScope s_Float_eq) .none kV4 dc4 pm4 an4 cd4 ct4), sl4⟩)
    (c4 : PySem.W.codeIn K cd4 "Float.__eq__" = true)
    (k4 : PySem.W.keepIn K (.ref f4) = true)
    (i4 : PySem.W.isFn K (.ref f4) = true)
    (a5 : PySem.W.nsIn K mainGlobals "is_plain" = some (some (.ref f5)))
    (l5 : K.lookup f5 = some ⟨oc5, od5, .func (PySem.W.fnOf "is_plain" "is_plain" (defArgs s_is_plain) (defBody s_is_plain) (defScope s_is_plain) .none kV5 dc5 pm5 an5 cd5 ct5), sl5⟩)
    (c5 : PySem.W.codeIn K cd5 "is_plain" = true)
    (k5 : PySem.W.keepIn K (.ref f5) = true)
    (a6 : PySem.W.nsIn K mainGlobals "reduced" = some (some (.ref f6)))
    (l6 : K.lookup f6 = some ⟨oc6, od6, .func (PySem.W.fnOf "reduced" "reduced" (defArgs s_reduced) (defBody s_reduced) (defScope s_reduced) .none kV6 dc6 pm6 an6 cd6 ct6), sl6⟩)
    (c6 : PySem.W.codeIn K cd6 "reduced" = true)
    (k6 : PySem.W.keepIn K (.ref f6) = true)
    (a7 : PySem.W.nsIn K mainGlobals "fits" = some (some (.ref f7)))
    (l7 : K.lookup f7 = some ⟨oc7, od7, .func (PySem.W.fnOf "fits" "fits" (defArgs s_fits) (defBody s_fits) (defScope s_fits) .none kV7 dc7 pm7 an7 cd7 ct7), sl7⟩)
    (c7 : PySem.W.codeIn K cd7 "fits" = true)
    (k7 : PySem.W.keepIn K (.ref f7) = true)
    (a8 : PySem.W.nsIn K mainGlobals "sign_of" = some (some (.ref f8)))
    (l8 : K.lookup f8 = some ⟨oc8, od8, .func (PySem.W.fnOf "sign_of" "sign_of" (defArgs s_sign_of) (defBody s_sign_of) (defScope s_sign_of) .none kV8 dc8 pm8 an8 cd8 ct8), sl8⟩)
    (c8 : PySem.W.codeIn K cd8 "sign_of" = true)
    (k8 : PySem.W.keepIn K (.ref f8) = true)
    (a9 : PySem.W.nsIn K mainGlobals "infinity" = some (some (.ref f9)))
    (l9 : K.lookup f9 = some ⟨oc9, od9, .func (PySem.W.fnOf "infinity" "infinity" (defArgs s_infinity) (defBody s_infinity) (defScope s_infinity) .none kV9 dc9 pm9 an9 cd9 ct9), sl9⟩)
    (c9 : PySem.W.codeIn K cd9 "infinity" = true)
    (k9 : PySem.W.keepIn K (.ref f9) = true)
    (a10 : PySem.W.nsIn K mainGlobals "nearest" = some (some (.ref f10)))
    (l10 : K.lookup f10 = some ⟨oc10, od10, .func (PySem.W.fnOf "nearest" "nearest" (defArgs s_nearest) (defBody s_nearest) (defScope s_nearest) .none kV10 dc10 pm10 an10 cd10 ct10), sl10⟩)
    (c10 : PySem.W.codeIn K cd10 "nearest" = true)
    (k10 : PySem.W.keepIn K (.ref f10) = true)
    (a11 : PySem.W.nsIn K mainGlobals "to_float" = some (some (.ref f11)))
    (l11 : K.lookup f11 = some ⟨oc11, od11, .func (PySem.W.fnOf "to_float" "to_float" (defArgs s_to_float) (defBody s_to_float) (defScope s_to_float) .none kV11 dc11 pm11 an11 cd11 ct11), sl11⟩)
    (c11 : PySem.W.codeIn K cd11 "to_float" = true)
    (k11 : PySem.W.keepIn K (.ref f11) = true)
    (a12 : PySem.W.nsIn K mainGlobals "_law_well" = some (some (.ref f12)))
    (l12 : K.lookup f12 = some ⟨oc12, od12, .func (PySem.W.fnOf "_law_well" "_law_well" (defArgs s_law_well) (defBody s_law_well) (defScope s_law_well) .none kV12 dc12 pm12 an12 cd12 ct12), sl12⟩)
    (c12 : PySem.W.codeIn K cd12 "_law_well" = true)
    (k12 : PySem.W.keepIn K (.ref f12) = true)
    (a13 : PySem.W.nsIn K mainGlobals "_law_draw" = some (some (.ref f13)))
    (l13 : K.lookup f13 = some ⟨oc13, od13, .func (PySem.W.fnOf "_law_draw" "_law_draw" (defArgs s_law_draw) (defBody s_law_draw) (defScope s_law_draw) .none kV13 dc13 pm13 an13 cd13 ct13), sl13⟩)
    (c13 : PySem.W.codeIn K cd13 "_law_draw" = true)
    (k13 : PySem.W.keepIn K (.ref f13) = true)
    (a14 : PySem.W.nsIn K mainGlobals "_law_one" = some (some (.ref f14)))
    (l14 : K.lookup f14 = some ⟨oc14, od14, .func (PySem.W.fnOf "_law_one" "_law_one" (defArgs s_law_one) (defBody s_law_one) (defScope s_law_one) .none kV14 dc14 pm14 an14 cd14 ct14), sl14⟩)
    (c14 : PySem.W.codeIn K cd14 "_law_one" = true)
    (k14 : PySem.W.keepIn K (.ref f14) = true)
    (a15 : PySem.W.nsIn K mainGlobals "_law_great" = some (some (.ref f15)))
    (l15 : K.lookup f15 = some ⟨oc15, od15, .func (PySem.W.fnOf "_law_great" "_law_great" (defArgs s_law_great) (defBody s_law_great) (defScope s_law_great) .none kV15 dc15 pm15 an15 cd15 ct15), sl15⟩)
    (c15 : PySem.W.codeIn K cd15 "_law_great" = true)
    (k15 : PySem.W.keepIn K (.ref f15) = true)
    (a16 : PySem.W.nsIn K mainGlobals "_law_finite" = some (some (.ref f16)))
    (l16 : K.lookup f16 = some ⟨oc16, od16, .func (PySem.W.fnOf "_law_finite" "_law_finite" (defArgs s_law_finite) (defBody s_law_finite) (defScope s_law_finite) .none kV16 dc16 pm16 an16 cd16 ct16), sl16⟩)
    (c16 : PySem.W.codeIn K cd16 "_law_finite" = true)
    (k16 : PySem.W.keepIn K (.ref f16) = true)
    (a17 : PySem.W.nsIn K mainGlobals "_law_float" = some (some (.ref f17)))
    (l17 : K.lookup f17 = some ⟨oc17, od17, .func (PySem.W.fnOf "_law_float" "_law_float" (defArgs s_law_float) (defBody s_law_float) (defScope s_law_float) .none kV17 dc17 pm17 an17 cd17 ct17), sl17⟩)
    (c17 : PySem.W.codeIn K cd17 "_law_float" = true)
    (k17 : PySem.W.keepIn K (.ref f17) = true)
    (a18 : PySem.W.nsIn K mainGlobals "nan" = some (some (.ref f18)))
    (l18 : K.lookup f18 = some ⟨oc18, od18, .func (PySem.W.fnOf "nan" "nan" (defArgs s_nan) (defBody s_nan) (defScope s_nan) .none kV18 dc18 pm18 an18 cd18 ct18), sl18⟩)
    (c18 : PySem.W.codeIn K cd18 "nan" = true)
    (k18 : PySem.W.keepIn K (.ref f18) = true)
    (a19 : PySem.W.nsIn K mainGlobals "added" = some (some (.ref f19)))
    (l19 : K.lookup f19 = some ⟨oc19, od19, .func (PySem.W.fnOf "added" "added" (defArgs s_added) (defBody s_added) (defScope s_added) .none kV19 dc19 pm19 an19 cd19 ct19), sl19⟩)
    (c19 : PySem.W.codeIn K cd19 "added" = true)
    (k19 : PySem.W.keepIn K (.ref f19) = true)
    (a20 : PySem.W.nsIn K mainGlobals "multiplied" = some (some (.ref f20)))
    (l20 : K.lookup f20 = some ⟨oc20, od20, .func (PySem.W.fnOf "multiplied" "multiplied" (defArgs s_multiplied) (defBody s_multiplied) (defScope s_multiplied) .none kV20 dc20 pm20 an20 cd20 ct20), sl20⟩)
    (c20 : PySem.W.codeIn K cd20 "multiplied" = true)
    (k20 : PySem.W.keepIn K (.ref f20) = true)
    (a21 : PySem.W.nsIn K mainGlobals "divided" = some (some (.ref f21)))
    (l21 : K.lookup f21 = some ⟨oc21, od21, .func (PySem.W.fnOf "divided" "divided" (defArgs s_divided) (defBody s_divided) (defScope s_divided) .none kV21 dc21 pm21 an21 cd21 ct21), sl21⟩)
    (c21 : PySem.W.codeIn K cd21 "divided" = true)
    (k21 : PySem.W.keepIn K (.ref f21) = true)
    (a22 : PySem.W.nsIn K mainGlobals "floored" = some (some (.ref f22)))
    (l22 : K.lookup f22 = some ⟨oc22, od22, .func (PySem.W.fnOf "floored" "floored" (defArgs s_floored) (defBody s_floored) (defScope s_floored) .none kV22 dc22 pm22 an22 cd22 ct22), sl22⟩)
    (c22 : PySem.W.codeIn K cd22 "floored" = true)
    (k22 : PySem.W.keepIn K (.ref f22) = true)
    (a23 : PySem.W.nsIn K mainGlobals "remainder" = some (some (.ref f23)))
    (l23 : K.lookup f23 = some ⟨oc23, od23, .func (PySem.W.fnOf "remainder" "remainder" (defArgs s_remainder) (defBody s_remainder) (defScope s_remainder) .none kV23 dc23 pm23 an23 cd23 ct23), sl23⟩)
    (c23 : PySem.W.codeIn K cd23 "remainder" = true)
    (k23 : PySem.W.keepIn K (.ref f23) = true)
    (a24 : PySem.W.nsIn K mainGlobals "by_floats" = some (some (.ref f24)))
    (l24 : K.lookup f24 = some ⟨oc24, od24, .func (PySem.W.fnOf "by_floats" "by_floats" (defArgs s_by_floats) (defBody s_by_floats) (defScope s_by_floats) .none kV24 dc24 pm24 an24 cd24 ct24), sl24⟩)
    (c24 : PySem.W.codeIn K cd24 "by_floats" = true)
    (k24 : PySem.W.keepIn K (.ref f24) = true)
    (a25 : PySem.W.nsIn K mainGlobals "arith" = some (some (.ref f25)))
    (l25 : K.lookup f25 = some ⟨oc25, od25, .func (PySem.W.fnOf "arith" "arith" (defArgs s_arith) (defBody s_arith) (defScope s_arith) .none kV25 dc25 pm25 an25 cd25 ct25), sl25⟩)
    (c25 : PySem.W.codeIn K cd25 "arith" = true)
    (k25 : PySem.W.keepIn K (.ref f25) = true)
    (a26 : PySem.W.nsIn K mainGlobals "wrapped" = some (some (.ref f26)))
    (l26 : K.lookup f26 = some ⟨oc26, od26, .func (PySem.W.fnOf "wrapped" "wrapped" (defArgs s_wrapped) (defBody s_wrapped) (defScope s_wrapped) .none kV26 dc26 pm26 an26 cd26 ct26), sl26⟩)
    (c26 : PySem.W.codeIn K cd26 "wrapped" = true)
    (k26 : PySem.W.keepIn K (.ref f26) = true)
    (a27 : PySem.W.nsIn K mainGlobals "text_of" = some (some (.ref f27)))
    (l27 : K.lookup f27 = some ⟨oc27, od27, .func (PySem.W.fnOf "text_of" "text_of" (defArgs s_text_of) (defBody s_text_of) (defScope s_text_of) .none kV27 dc27 pm27 an27 cd27 ct27), sl27⟩)
    (c27 : PySem.W.codeIn K cd27 "text_of" = true)
    (k27 : PySem.W.keepIn K (.ref f27) = true)
    (a28 : PySem.W.nsIn K mainGlobals "ten_times" = some (some (.ref f28)))
    (l28 : K.lookup f28 = some ⟨oc28, od28, .func (PySem.W.fnOf "ten_times" "ten_times" (defArgs s_ten_times) (defBody s_ten_times) (defScope s_ten_times) .none kV28 dc28 pm28 an28 cd28 ct28), sl28⟩)
    (c28 : PySem.W.codeIn K cd28 "ten_times" = true)
    (k28 : PySem.W.keepIn K (.ref f28) = true)
    (a29 : PySem.W.nsIn K mainGlobals "shown" = some (some (.ref f29)))
    (l29 : K.lookup f29 = some ⟨oc29, od29, .func (PySem.W.fnOf "shown" "shown" (defArgs s_shown) (defBody s_shown) (defScope s_shown) .none kV29 dc29 pm29 an29 cd29 ct29), sl29⟩)
    (c29 : PySem.W.codeIn K cd29 "shown" = true)
    (k29 : PySem.W.keepIn K (.ref f29) = true)
    (a30 : PySem.W.nsIn K mainGlobals "place_of_first" = some (some (.ref f30)))
    (l30 : K.lookup f30 = some ⟨oc30, od30, .func (PySem.W.fnOf "place_of_first" "place_of_first" (defArgs s_place_of_first) (defBody s_place_of_first) (defScope s_place_of_first) .none kV30 dc30 pm30 an30 cd30 ct30), sl30⟩)
    (c30 : PySem.W.codeIn K cd30 "place_of_first" = true)
    (k30 : PySem.W.keepIn K (.ref f30) = true)
    (a31 : PySem.W.nsIn K mainGlobals "rounded_at" = some (some (.ref f31)))
    (l31 : K.lookup f31 = some ⟨oc31, od31, .func (PySem.W.fnOf "rounded_at" "rounded_at" (defArgs s_rounded_at) (defBody s_rounded_at) (defScope s_rounded_at) .none kV31 dc31 pm31 an31 cd31 ct31), sl31⟩)
    (c31 : PySem.W.codeIn K cd31 "rounded_at" = true)
    (k31 : PySem.W.keepIn K (.ref f31) = true)
    (a32 : PySem.W.nsIn K mainGlobals "_law_tens" = some (some (.ref f32)))
    (l32 : K.lookup f32 = some ⟨oc32, od32, .func (PySem.W.fnOf "_law_tens" "_law_tens" (defArgs s_law_tens) (defBody s_law_tens) (defScope s_law_tens) .none kV32 dc32 pm32 an32 cd32 ct32), sl32⟩)
    (c32 : PySem.W.codeIn K cd32 "_law_tens" = true)
    (k32 : PySem.W.keepIn K (.ref f32) = true)
    (a33 : PySem.W.nsIn K mainGlobals "_law_parts" = some (some (.ref f33)))
    (l33 : K.lookup f33 = some ⟨oc33, od33, .func (PySem.W.fnOf "_law_parts" "_law_parts" (defArgs s_law_parts) (defBody s_law_parts) (defScope s_law_parts) .none kV33 dc33 pm33 an33 cd33 ct33), sl33⟩)
    (c33 : PySem.W.codeIn K cd33 "_law_parts" = true)
    (k33 : PySem.W.keepIn K (.ref f33) = true)
    (a34 : PySem.W.nsIn K mainGlobals "_law_is_shown" = some (some (.ref f34)))
    (l34 : K.lookup f34 = some ⟨oc34, od34, .func (PySem.W.fnOf "_law_is_shown" "_law_is_shown" (defArgs s_law_is_shown) (defBody s_law_is_shown) (defScope s_law_is_shown) .none kV34 dc34 pm34 an34 cd34 ct34), sl34⟩)
    (c34 : PySem.W.codeIn K cd34 "_law_is_shown" = true)
    (k34 : PySem.W.keepIn K (.ref f34) = true)
    (a35 : PySem.W.nsIn K mainGlobals "_law_right" = some (some (.ref f35)))
    (l35 : K.lookup f35 = some ⟨oc35, od35, .func (PySem.W.fnOf "_law_right" "_law_right" (defArgs s_law_right) (defBody s_law_right) (defScope s_law_right) .none kV35 dc35 pm35 an35 cd35 ct35), sl35⟩)
    (c35 : PySem.W.codeIn K cd35 "_law_right" = true)
    (k35 : PySem.W.keepIn K (.ref f35) = true)
    (a36 : PySem.W.nsIn K mainGlobals "_law_known_right" = some (some (.ref f36)))
    (l36 : K.lookup f36 = some ⟨oc36, od36, .func (PySem.W.fnOf "_law_known_right" "_law_known_right" (defArgs s_law_known_right) (defBody s_law_known_right) (defScope s_law_known_right) .none kV36 dc36 pm36 an36 cd36 ct36), sl36⟩)
    (c36 : PySem.W.codeIn K cd36 "_law_known_right" = true)
    (k36 : PySem.W.keepIn K (.ref f36) = true)
    (a37 : PySem.W.nsIn K mainGlobals "law" = some (some (.ref f37)))
    (l37 : K.lookup f37 = some ⟨oc37, od37, .func (PySem.W.fnOf "law" "law" (defArgs s_law) (defBody s_law) (defScope s_law) .none kV37 dc37 pm37 an37 cd37 ct37), sl37⟩)
    (c37 : PySem.W.codeIn K cd37 "law" = true)
    (k37 : PySem.W.keepIn K (.ref f37) = true)
    (ne_Float : PySem.W.findIn K (.ref CF) "__ne__" = some (some (.builtin "object.__ne__")))
    : ∃ fd : FuncData, (∀ (s : Shared) (v : Value), BindsTo s fd ⟨[v], []⟩ [("script", v)]) ∧ ∀ base : Heap, K.In base → base.Ns mainGlobals mg → FnOk l.prog w K mg base CX0 20 fa fd ["script"] (spLaw K) := by
  have e := hfa.symm.trans (PySem.W.mg_of X G a37)
  cases e
  have T : AllS K mg CF := {
    b_isinstance := PySem.W.mg_none_of X G b_isinstance
    b_int := PySem.W.mg_none_of X G b_int
    b_str := PySem.W.mg_none_of X G b_str
    b_bool := PySem.W.mg_none_of X G b_bool
    b_abs := PySem.W.mg_none_of X G b_abs
    b_max := PySem.W.mg_none_of X G b_max
    b_min := PySem.W.mg_none_of X G b_min
    b_divmod := PySem.W.mg_none_of X G b_divmod
    b_len := PySem.W.mg_none_of X G b_len
    b_range := PySem.W.mg_none_of X G b_range
    c_LEAST := ⟨_, PySem.W.mg_of X G c_LEAST⟩
    c_MOST := ⟨_, PySem.W.mg_of X G c_MOST⟩
    c_ROOM := ⟨_, PySem.W.mg_of X G c_ROOM⟩
    c_LOWEST := ⟨_, PySem.W.mg_of X G c_LOWEST⟩
    c_TOO_GREAT := ⟨_, PySem.W.mg_of X G c_TOO_GREAT⟩
    c_SHOWN := ⟨_, PySem.W.mg_of X G c_SHOWN⟩
    g_Float := PySem.W.mg_of X G g_Float
    l_Float := ⟨pg_Float, hd_Float, po_Float, sa_Float⟩
    y_Float := ⟨yc_Float, y_spec, y_takes, ym_Float⟩
    n_sign := n_sign
    n_top := n_top
    n_power := n_power
    i_Fint := i_Fint
    i_Fbool := i_Fbool
    i_Fstr := i_Fstr
    i_intF := i_intF
    i_boolF := i_boolF
    i_strF := i_strF
    i_nonF := i_nonF
    x_init := ⟨_, _, PySem.W.mg_of X G g_Float, ⟨mk_Float, a1, i1, kc_Float⟩, fun_mk (st := s_Float_init) l1 c1 k1, (fun_mk (st := s_Float_init) l1 c1 k1).binds (fun _ _ _ _ _ _ us hl => match us, hl with | [_, _, _, _], _ => rfl)⟩
    x_is_finite := ⟨_, _, ⟨a2, i2, k2⟩, fun_mk (st := s_Float_is_finite) l2 c2 k2, (fun_mk (st := s_Float_is_finite) l2 c2 k2).binds (fun _ _ _ _ _ _ us hl => match us, hl with | [_], _ => rfl)⟩
    x_ratio := ⟨_, _, ⟨a3, i3, k3⟩, fun_mk (st := s_Float_ratio) l3 c3 k3, (fun_mk (st := s_Float_ratio) l3 c3 k3).binds (fun _ _ _ _ _ _ us hl => match us, hl with | [_], _ => rfl)⟩
    x_eq := ⟨_, _, ⟨a4, i4, k4⟩, fun_mk (st := s_Float_eq) l4 c4 k4, (fun_mk (st := s_Float_eq) l4 c4 k4).binds (fun _ _ _ _ _ _ us hl => match us, hl with | [_, _], _ => rfl)⟩
    x_is_plain := ⟨_, _, PySem.W.mg_of X G a5, fun_mk (st := s_is_plain) l5 c5 k5, (fun_mk (st := s_is_plain) l5 c5 k5).binds (fun _ _ _ _ _ _ us hl => match us, hl with | [_], _ => rfl)⟩
    x_reduced := ⟨_, _, PySem.W.mg_of X G a6, fun_mk (st := s_reduced) l6 c6 k6, (fun_mk (st := s_reduced) l6 c6 k6).binds (fun _ _ _ _ _ _ us hl => match us, hl with | [_, _], _ => rfl)⟩
    x_fits := ⟨_, _, PySem.W.mg_of X G a7, fun_mk (st := s_fits) l7 c7 k7, (fun_mk (st := s_fits) l7 c7 k7).binds (fun _ _ _ _ _ _ us hl => match us, hl with | [_, _], _ => rfl)⟩
    x_sign_of := ⟨_, _, PySem.W.mg_of X G a8, fun_mk (st := s_sign_of) l8 c8 k8, (fun_mk (st := s_sign_of) l8 c8 k8).binds (fun _ _ _ _ _ _ us hl => match us, hl with | [_], _ => rfl)⟩
    x_infinity := ⟨_, _, PySem.W.mg_of X G a9, fun_mk (st := s_infinity) l9 c9 k9, (fun_mk (st := s_infinity) l9 c9 k9).binds (fun _ _ _ _ _ _ us hl => match us, hl with | [_], _ => rfl)⟩
    x_nearest := ⟨_, _, PySem.W.mg_of X G a10, fun_mk (st := s_nearest) l10 c10 k10, (fun_mk (st := s_nearest) l10 c10 k10).binds (fun _ _ _ _ _ _ us hl => match us, hl with | [_, _, _], _ => rfl)⟩
    x_to_float := ⟨_, _, PySem.W.mg_of X G a11, fun_mk (st := s_to_float) l11 c11 k11, (fun_mk (st := s_to_float) l11 c11 k11).binds (fun _ _ _ _ _ _ us hl => match us, hl with | [_], _ => rfl)⟩
    x_well := ⟨_, _, PySem.W.mg_of X G a12, fun_mk (st := s_law_well) l12 c12 k12, (fun_mk (st := s_law_well) l12 c12 k12).binds (fun _ _ _ _ _ _ us hl => match us, hl with | [_], _ => rfl)⟩
    x_draw := ⟨_, _, PySem.W.mg_of X G a13, fun_mk (st := s_law_draw) l13 c13 k13, (fun_mk (st := s_law_draw) l13 c13 k13).binds (fun _ _ _ _ _ _ us hl => match us, hl with | [_, _], _ => rfl)⟩
    x_one := ⟨_, _, PySem.W.mg_of X G a14, fun_mk (st := s_law_one) l14 c14 k14, (fun_mk (st := s_law_one) l14 c14 k14).binds (fun _ _ _ _ _ _ us hl => match us, hl with | [_, _], _ => rfl)⟩
    x_great := ⟨_, _, PySem.W.mg_of X G a15, fun_mk (st := s_law_great) l15 c15 k15, (fun_mk (st := s_law_great) l15 c15 k15).binds (fun _ _ _ _ _ _ us hl => match us, hl with | [_, _], _ => rfl)⟩
    x_finite := ⟨_, _, PySem.W.mg_of X G a16, fun_mk (st := s_law_finite) l16 c16 k16, (fun_mk (st := s_law_finite) l16 c16 k16).binds (fun _ _ _ _ _ _ us hl => match us, hl with | [_], _ => rfl)⟩
    x_float := ⟨_, _, PySem.W.mg_of X G a17, fun_mk (st := s_law_float) l17 c17 k17, (fun_mk (st := s_law_float) l17 c17 k17).binds (fun _ _ _ _ _ _ us hl => match us, hl with | [_], _ => rfl)⟩
    x_nan := ⟨_, _, PySem.W.mg_of X G a18, fun_mk (st := s_nan) l18 c18 k18, (fun_mk (st := s_nan) l18 c18 k18).binds (fun _ _ _ _ _ _ us hl => match us, hl with | [], _ => rfl)⟩
    x_added := ⟨_, _, PySem.W.mg_of X G a19, fun_mk (st := s_added) l19 c19 k19, (fun_mk (st := s_added) l19 c19 k19).binds (fun _ _ _ _ _ _ us hl => match us, hl with | [_, _], _ => rfl)⟩
    x_multiplied := ⟨_, _, PySem.W.mg_of X G a20, fun_mk (st := s_multiplied) l20 c20 k20, (fun_mk (st := s_multiplied) l20 c20 k20).binds (fun _ _ _ _ _ _ us hl => match us, hl with | [_, _], _ => rfl)⟩
    x_divided := ⟨_, _, PySem.W.mg_of X G a21, fun_mk (st := s_divided) l21 c21 k21, (fun_mk (st := s_divided) l21 c21 k21).binds (fun _ _ _ _ _ _ us hl => match us, hl with | [_, _], _ => rfl)⟩
    x_floored := ⟨_, _, PySem.W.mg_of X G a22, fun_mk (st := s_floored) l22 c22 k22, (fun_mk (st := s_floored) l22 c22 k22).binds (fun _ _ _ _ _ _ us hl => match us, hl with | [_], _ => rfl)⟩
    x_remainder := ⟨_, _, PySem.W.mg_of X G a23, fun_mk (st := s_remainder) l23 c23 k23, (fun_mk (st := s_remainder) l23 c23 k23).binds (fun _ _ _ _ _ _ us hl => match us, hl with | [_, _], _ => rfl)⟩
    x_by_floats := ⟨_, _, PySem.W.mg_of X G a24, fun_mk (st := s_by_floats) l24 c24 k24, (fun_mk (st := s_by_floats) l24 c24 k24).binds (fun _ _ _ _ _ _ us hl => match us, hl with | [_, _, _], _ => rfl)⟩
    x_arith := ⟨_, _, PySem.W.mg_of X G a25, fun_mk (st := s_arith) l25 c25 k25, (fun_mk (st := s_arith) l25 c25 k25).binds (fun _ _ _ _ _ _ us hl => match us, hl with | [_, _, _], _ => rfl)⟩
    x_wrapped := ⟨_, _, PySem.W.mg_of X G a26, fun_mk (st := s_wrapped) l26 c26 k26, (fun_mk (st := s_wrapped) l26 c26 k26).binds (fun _ _ _ _ _ _ us hl => match us, hl with | [_], _ => rfl)⟩
    x_text_of := ⟨_, _, PySem.W.mg_of X G a27, fun_mk (st := s_text_of) l27 c27 k27, (fun_mk (st := s_text_of) l27 c27 k27).binds (fun _ _ _ _ _ _ us hl => match us, hl with | [_], _ => rfl)⟩
    x_ten_times := ⟨_, _, PySem.W.mg_of X G a28, fun_mk (st := s_ten_times) l28 c28 k28, (fun_mk (st := s_ten_times) l28 c28 k28).binds (fun _ _ _ _ _ _ us hl => match us, hl with | [_], _ => rfl)⟩
    x_shown := ⟨_, _, PySem.W.mg_of X G a29, fun_mk (st := s_shown) l29 c29 k29, (fun_mk (st := s_shown) l29 c29 k29).binds (fun _ _ _ _ _ _ us hl => match us, hl with | [_], _ => rfl)⟩
    x_place_of_first := ⟨_, _, PySem.W.mg_of X G a30, fun_mk (st := s_place_of_first) l30 c30 k30, (fun_mk (st := s_place_of_first) l30 c30 k30).binds (fun _ _ _ _ _ _ us hl => match us, hl with | [_, _], _ => rfl)⟩
    x_rounded_at := ⟨_, _, PySem.W.mg_of X G a31, fun_mk (st := s_rounded_at) l31 c31 k31, (fun_mk (st := s_rounded_at) l31 c31 k31).binds (fun _ _ _ _ _ _ us hl => match us, hl with | [_, _, _], _ => rfl)⟩
    x_tens := ⟨_, _, PySem.W.mg_of X G a32, fun_mk (st := s_law_tens) l32 c32 k32, (fun_mk (st := s_law_tens) l32 c32 k32).binds (fun _ _ _ _ _ _ us hl => match us, hl with | [_], _ => rfl)⟩
    x_parts := ⟨_, _, PySem.W.mg_of X G a33, fun_mk (st := s_law_parts) l33 c33 k33, (fun_mk (st := s_law_parts) l33 c33 k33).binds (fun _ _ _ _ _ _ us hl => match us, hl with | [_], _ => rfl)⟩
    x_is_shown := ⟨_, _, PySem.W.mg_of X G a34, fun_mk (st := s_law_is_shown) l34 c34 k34, (fun_mk (st := s_law_is_shown) l34 c34 k34).binds (fun _ _ _ _ _ _ us hl => match us, hl with | [_, _, _], _ => rfl)⟩
    x_right := ⟨_, _, PySem.W.mg_of X G a35, fun_mk (st := s_law_right) l35 c35 k35, (fun_mk (st := s_law_right) l35 c35 k35).binds (fun _ _ _ _ _ _ us hl => match us, hl with | [_], _ => rfl)⟩
    x_known := ⟨_, _, PySem.W.mg_of X G a36, fun_mk (st := s_law_known_right) l36 c36 k36, (fun_mk (st := s_law_known_right) l36 c36 k36).binds (fun _ _ _ _ _ _ us hl => match us, hl with | [], _ => rfl)⟩
    q_Float := ⟨ym_Float, ne_Float⟩
  }
  exact ⟨PySem.W.fnOf "law" "law" (defArgs s_law) (defBody s_law) (defScope s_law) .none kV37 dc37 pm37 an37 cd37 ct37, fun s v => .of_eq rfl, fun base _ _ => ok_all T (fun_mk (st := s_law) l37 c37 k37)⟩
end Nu

open PySem PySem.W PyProof.Rows
set_option Elab.async false
set_option maxRecDepth 100000
set_option maxHeartbeats 0
open_top hd06 for PySem.Challenge.rw_walkmade_k06_texts_of_numbers
theorem PySem.Challenge.cw_walkmade_k06_texts_of_numbers_holds : PySem.Challenge.rw_walkmade_k06_texts_of_numbers.Holds :=
  hd06 (by
  k_fill
  refine L2.walk_ofB (l := PySem.Challenge.rw_walkmade_k06_texts_of_numbers) (n := 63) (k := 20) (x := "script") (CX := fun _ => L2.CX0) (sp := fun w => Nu.spLaw (hd06.heap_39 w.params)) rfl (by decide) rfl ⟨rfl, by decide, by decide⟩ (fun w h Y => PySem.W.kIn_of Y) ?F
    (fun w H a ns h1 h2 _ h4 => ⟨a, ns, rfl, h4, h1, fun z hz => Int.ofNat_le.2 (h2 z hz), fun _ => rfl⟩) (fun _ _ _ _ _ z => z)
  case F =>
    intro w mg fa h KX G hmg
    refine' Nu.fin_mk KX G hmg ?b_isinstance ?b_int ?b_str ?b_bool ?b_abs ?b_max ?b_min ?b_divmod ?b_len ?b_range ?c_LEAST ?c_MOST ?c_ROOM ?c_LOWEST ?c_TOO_GREAT ?c_SHOWN ?g_Float ?pg_Float ?hd_Float ?po_Float ?sa_Float ?yc_Float ?ym_Float ?n_sign ?n_top ?n_power ?i_Fint ?i_Fbool ?i_Fstr ?i_intF ?i_boolF ?i_strF ?i_nonF ?mk_Float ?kc_Float ?y_spec ?y_takes ?a1 ?l1 ?c1 ?k1 ?i1 ?a2 ?l2 ?c2 ?k2 ?i2 ?a3 ?l3 ?c3 ?k3 ?i3 ?a4 ?l4 ?c4 ?k4 ?i4 ?a5 ?l5 ?c5 ?k5 ?a6 ?l6 ?c6 ?k6 ?a7 ?l7 ?c7 ?k7 ?a8 ?l8 ?c8 ?k8 ?a9 ?l9 ?c9 ?k9 ?a10 ?l10 ?c10 ?k10 ?a11 ?l11 ?c11 ?k11 ?a12 ?l12 ?c12 ?k12 ?a13 ?l13 ?c13 ?k13 ?a14 ?l14 ?c14 ?k14 ?a15 ?l15 ?c15 ?k15 ?a16 ?l16 ?c16 ?k16 ?a17 ?l17 ?c17 ?k17 ?a18 ?l18 ?c18 ?k18 ?a19 ?l19 ?c19 ?k19 ?a20 ?l20 ?c20 ?k20 ?a21 ?l21 ?c21 ?k21 ?a22 ?l22 ?c22 ?k22 ?a23 ?l23 ?c23 ?k23 ?a24 ?l24 ?c24 ?k24 ?a25 ?l25 ?c25 ?k25 ?a26 ?l26 ?c26 ?k26 ?a27 ?l27 ?c27 ?k27 ?a28 ?l28 ?c28 ?k28 ?a29 ?l29 ?c29 ?k29 ?a30 ?l30 ?c30 ?k30 ?a31 ?l31 ?c31 ?k31 ?a32 ?l32 ?c32 ?k32 ?a33 ?l33 ?c33 ?k33 ?a34 ?l34 ?c34 ?k34 ?a35 ?l35 ?c35 ?k35 ?a36 ?l36 ?c36 ?k36 ?a37 ?l37 ?c37 ?k37 ?ne_Float
    (case b_isinstance => k_is)
    (case b_int => k_is)
    (case b_str => k_is)
    (case b_bool => k_is)
    (case b_abs => k_is)
    (case b_max => k_is)
    (case b_min => k_is)
    (case b_divmod => k_is)
    (case b_len => k_is)
    (case b_range => k_is)
    (case c_LEAST => k_is)
    (case c_MOST => k_is)
    (case c_ROOM => k_is)
    (case c_LOWEST => k_is)
    (case c_TOO_GREAT => k_is)
    (case c_SHOWN => k_is)
    (case g_Float => k_is)
    (case pg_Float => k_is)
    (case hd_Float => k_is)
    (case po_Float => k_is)
    (case sa_Float => k_is)
    (case yc_Float => k_is)
    (case ym_Float => k_is)
    (case n_sign => k_is)
    (case n_top => k_is)
    (case n_power => k_is)
    (case i_Fint => kit_is)
    (case i_Fbool => kit_is)
    (case i_Fstr => kit_is)
    (case i_intF => kit_is)
    (case i_boolF => kit_is)
    (case i_strF => kit_is)
    (case i_nonF => kit_is)
    (case mk_Float => k_is)
    (case kc_Float => k_is)
    (case y_spec => k_is)
    (case y_takes => k_is)
    (case a1 => k_is)
    (case l1 => k_is)
    (case c1 => k_is)
    (case k1 => k_is)
    (case i1 => k_is)
    (case a2 => k_is)
    (case l2 => k_is)
    (case c2 => k_is)
    (case k2 => k_is)
    (case i2 => k_is)
    (case a3 => k_is)
    (case l3 => k_is)
    (case c3 => k_is)
    (case k3 => k_is)
    (case i3 => k_is)
    (case a4 => k_is)
    (case l4 => k_is)
    (case c4 => k_is)
    (case k4 => k_is)
    (case i4 => k_is)
    (case a5 => k_is)
    (case l5 => k_is)
    (case c5 => k_is)
    (case k5 => k_is)
    (case a6 => k_is)
    (case l6 => k_is)
    (case c6 => k_is)
    (case k6 => k_is)
    (case a7 => k_is)
    (case l7 => k_is)
    (case c7 => k_is)
    (case k7 => k_is)
    (case a8 => k_is)
    (case l8 => k_is)
    (case c8 => k_is)
    (case k8 => k_is)
    (case a9 => k_is)
    (case l9 => k_is)
    (case c9 => k_is)
    (case k9 => k_is)
    (case a10 => k_is)
    (case l10 => k_is)
    (case c10 => k_is)
    (case k10 => k_is)
    (case a11 => k_is)
    (case l11 => k_is)
    (case c11 => k_is)
    (case k11 => k_is)
    (case a12 => k_is)
    (case l12 => k_is)
    (case c12 => k_is)
    (case k12 => k_is)
    (case a13 => k_is)
    (case l13 => k_is)
    (case c13 => k_is)
    (case k13 => k_is)
    (case a14 => k_is)
    (case l14 => k_is)
    (case c14 => k_is)
    (case k14 => k_is)
    (case a15 => k_is)
    (case l15 => k_is)
    (case c15 => k_is)
    (case k15 => k_is)
    (case a16 => k_is)
    (case l16 => k_is)
    (case c16 => k_is)
    (case k16 => k_is)
    (case a17 => k_is)
    (case l17 => k_is)
    (case c17 => k_is)
    (case k17 => k_is)
    (case a18 => k_is)
    (case l18 => k_is)
    (case c18 => k_is)
    (case k18 => k_is)
    (case a19 => k_is)
    (case l19 => k_is)
    (case c19 => k_is)
    (case k19 => k_is)
    (case a20 => k_is)
    (case l20 => k_is)
    (case c20 => k_is)
    (case k20 => k_is)
    (case a21 => k_is)
    (case l21 => k_is)
    (case c21 => k_is)
    (case k21 => k_is)
    (case a22 => k_is)
    (case l22 => k_is)
    (case c22 => k_is)
    (case k22 => k_is)
    (case a23 => k_is)
    (case l23 => k_is)
    (case c23 => k_is)
    (case k23 => k_is)
    (case a24 => k_is)
    (case l24 => k_is)
    (case c24 => k_is)
    (case k24 => k_is)
    (case a25 => k_is)
    (case l25 => k_is)
    (case c25 => k_is)
    (case k25 => k_is)
    (case a26 => k_is)
    (case l26 => k_is)
    (case c26 => k_is)
    (case k26 => k_is)
    (case a27 => k_is)
    (case l27 => k_is)
    (case c27 => k_is)
    (case k27 => k_is)
    (case a28 => k_is)
    (case l28 => k_is)
    (case c28 => k_is)
    (case k28 => k_is)
    (case a29 => k_is)
    (case l29 => k_is)
    (case c29 => k_is)
    (case k29 => k_is)
    (case a30 => k_is)
    (case l30 => k_is)
    (case c30 => k_is)
    (case k30 => k_is)
    (case a31 => k_is)
    (case l31 => k_is)
    (case c31 => k_is)
    (case k31 => k_is)
    (case a32 => k_is)
    (case l32 => k_is)
    (case c32 => k_is)
    (case k32 => k_is)
    (case a33 => k_is)
    (case l33 => k_is)
    (case c33 => k_is)
    (case k33 => k_is)
    (case a34 => k_is)
    (case l34 => k_is)
    (case c34 => k_is)
    (case k34 => k_is)
    (case a35 => k_is)
    (case l35 => k_is)
    (case c35 => k_is)
    (case k35 => k_is)
    (case a36 => k_is)
    (case l36 => k_is)
    (case c36 => k_is)
    (case k36 => k_is)
    (case a37 => k_is)
    (case l37 => k_is)
    (case c37 => k_is)
    (case k37 => k_is)
    (case ne_Float => k_is)
  )
