import PyProof.Rows.All
import Wide.All
import OpenK.AllK
import Wide.FinOn
import HandS.ForMost
import HandS.WideBits
import HandS.IsInst
import HandS.EndBits
import HandS.Codes
import HandS.Defaults
import KE.IntBitsLaws
import HandS.More
import PyProof.InstEq
import HandS.Style
import HandS.OwnEq
import HandS.ExcInit
import HandS.ExcField
import HandS.TryOnly
import KE.KExcInit
import PyProof.ExcBaseAll.ArithmeticError
import HandS.WordsExc
import PyProof.NeKinds
import KE.KDictZip
import HandS.ListItems
import HandS.Zip
import HandS.EndTab
import KE.KNest
import KE.BitLaws
import PyProof.Rows.BitMore
import PySem.Challenge.RW_walkmade_k04_bits_of_numbers
import KE.RegKIsAll
import KE.KExcLine
set_option Elab.async false
set_option linter.all false
set_option maxRecDepth 100000
set_option maxHeartbeats 4000000
/-! Readings by steps that look at the head of the goal alone. -/
namespace Rd
open PySem PySem.Spec PyProof.Rows L2

/-! ### defs of the text, packed -/
/-- the def x of the text st stands in the module -/
structure Tx (K : PySem.W.Frag) (mg : Str → Option Value) (x n : Str) (st : Stmt) (ps : List Str) : Prop where
  ex : ∃ f fd, mg x = some (.ref f) ∧ Fun K n n st f fd ∧ Binds K fd ps []
/-- the def x keeps its promise -/
structure Kn (P : Program) (w : World) (K : PySem.W.Frag) (mg : Str → Option Value) (base : Heap) (CX : CXT) (k : Nat) (x : Str) (ps : List Str) (sp : Sp) : Prop where
  ex : ∃ f fd, mg x = some (.ref f) ∧ PySem.W.keepIn K (.ref f) = true ∧ Binds K fd ps [] ∧ FnOk P w K mg base CX k f fd ps sp
/-- a method m of the class at C -/
structure KnM (P : Program) (w : World) (K : PySem.W.Frag) (mg : Str → Option Value) (base : Heap) (CX : CXT) (k : Nat) (C : Addr) (m : Str) (ps : List Str) (sp : Sp) : Prop where
  ex : ∃ f fd, Meth K C m f ∧ Binds K fd ps [] ∧ FnOk P w K mg base CX k f fd ps sp
/-- a class whose __init__ keeps its promise -/
structure KnC (P : Program) (w : World) (K : PySem.W.Frag) (mg : Str → Option Value) (base : Heap) (CX : CXT) (k : Nat) (x : Str) (C : Addr) (ps : List Str) (sp : Sp) : Prop where
  ex : ∃ f fd, mg x = some (.ref C) ∧ Mk K C f ∧ Binds K fd ps [] ∧ FnOk P w K mg base CX k f fd ps sp
/-- a method of the text -/
structure TxM (K : PySem.W.Frag) (C : Addr) (m qual : Str) (st : Stmt) (ps : List Str) : Prop where
  ex : ∃ f fd, Meth K C m f ∧ Fun K m qual st f fd ∧ Binds K fd ps []
structure TxC (K : PySem.W.Frag) (mg : Str → Option Value) (x : Str) (C : Addr) (qual : Str) (st : Stmt) (ps : List Str) : Prop where
  ex : ∃ f fd, mg x = some (.ref C) ∧ Mk K C f ∧ Fun K "__init__" qual st f fd ∧ Binds K fd ps []

section
variable {P : Program} {w : World} {K : PySem.W.Frag} {mg : Str → Option Value} {base : Heap} {CX : CXT} {k : Nat} {x : Str} {ps : List Str} {sp : Sp}
theorem Kn.mono (h : Kn P w K mg base CX k x ps sp) {j : Nat} (hj : k ≤ j) : Kn P w K mg base CX j x ps sp :=
  let ⟨f, fd, a, b, c, d⟩ := h.ex
  ⟨f, fd, a, b, c, d.mono hj⟩
theorem Tx.kn {n : Str} {st : Stmt} (t : Tx K mg x n st ps) (h : ∀ f fd, Fun K n n st f fd → FnOk P w K mg base CX k f fd ps sp) : Kn P w K mg base CX k x ps sp :=
  let ⟨f, fd, a, b, c⟩ := t.ex
  ⟨f, fd, a, b.kp, c, h f fd b⟩
theorem TxM.kn {C : Addr} {m qual : Str} {st : Stmt} (t : TxM K C m qual st ps) (h : ∀ f fd, Fun K m qual st f fd → FnOk P w K mg base CX k f fd ps sp) : KnM P w K mg base CX k C m ps sp :=
  let ⟨f, fd, a, b, c⟩ := t.ex
  ⟨f, fd, a, c, h f fd b⟩
theorem TxC.kn {C : Addr} {qual : Str} {st : Stmt} (t : TxC K mg x C qual st ps) (h : ∀ f fd, Fun K "__init__" qual st f fd → FnOk P w K mg base CX k f fd ps sp) : KnC P w K mg base CX k x C ps sp :=
  let ⟨f, fd, a, b, c, d⟩ := t.ex
  ⟨f, fd, a, b, d, h f fd c⟩
end
section
variable {X : Cx} {k j : Nat} {x : Str} {ps : List Str} {sp : Sp} {p pos apos : Pos} {e o : Expr} {es : List Expr} {t : TA} {ta : TE} {C : Addr} {m : Str}
/-- f(e, ..) -/
theorem pk (h : Kn X.prog X.w X.K X.mg X.base CX0 k x ps sp) (hr : Room j X.A) (ha : PA X (e :: es) t) (hj : k ≤ j := by decide) (hg : Gl X x := by rfl) (hdb : (x == ("__debug__" : Str)) = false := by decide)
    (he : starEach (e :: es) X.env = (false, eval e X.env) :: starEach es X.env := by rfl) (hpl : (backTo pos (starEach es X.env)).any (·.1) = false := by rfl) : PE X (.Call (.Name x p) (e :: es) [] pos) (tCall sp [] E0 t) := by
  obtain ⟨f, fd, a, b, c, d⟩ := h.ex
  exact pe_call d (hr.mono hj) hg a b c .nil pass0 ha hdb he hpl
theorem pk0 (h : Kn X.prog X.w X.K X.mg X.base CX0 k x ps sp) (hr : Room j X.A) (hj : k ≤ j := by decide) (hg : Gl X x := by rfl) (hdb : (x == ("__debug__" : Str)) = false := by decide) : PE X (.Call (.Name x p) [] [] pos) (tCall sp [] E0 tNil) := by
  obtain ⟨f, fd, a, b, c, d⟩ := h.ex
  exact pe_call0 d (hr.mono hj) hg a b c .nil pass0 hdb
/-- C(e, ..) -/
theorem pkC (h : KnC X.prog X.w X.K X.mg X.base CX0 k x C ps sp) (hr : Room j X.A) (ha : PA X (e :: es) t) (hj : k + 1 ≤ j := by decide) (hg : Gl X x := by rfl) (hdb : (x == ("__debug__" : Str)) = false := by decide)
    (he : starEach (e :: es) X.env = (false, eval e X.env) :: starEach es X.env := by rfl) (hpl : (backTo pos (starEach es X.env)).any (·.1) = false := by rfl) : PE X (.Call (.Name x p) (e :: es) [] pos) (tMake C sp [] E0 t) := by
  obtain ⟨f, fd, a, b, c, d⟩ := h.ex
  exact pe_make b d (hr.mono hj) hg a c .nil pass0 ha hdb he hpl
/-- o.m() -/
theorem pkM0 (h : KnM X.prog X.w X.K X.mg X.base CX0 k C m ps sp) (cl : Cls X.K C) (hr : Room j X.A) (ho : PE X o ta) {pl : Sem Bool}
    (ht : eval (.Call (.Attribute o m apos) [] [] pos) X.env = (do
      let ov ← eval o X.env
      standAt apos.atName
      let (f, first) ← holding [ov] (getMethod ov m pl)
      callWith pos f first (backTo pos (starEach [] X.env)) (backToKw pos (keywordEach [] X.env)))) (hj : k ≤ j := by decide) :
    PE X (.Call (.Attribute o m apos) [] [] pos) (tMeth C m sp [] E0 ta tNil) := by
  obtain ⟨f, fd, a, b, d⟩ := h.ex
  exact pe_meth0 ho cl a d (hr.mono hj) b .nil pass0 ht
/-- a class or a constant of the module, as a value -/
theorem pg (x : Str) {v : V} {u : Value} (hm : X.mg x = some u) (r : RelV v u) (hg : Gl X x := by rfl) (hd : (x == ("__debug__" : Str)) = false := by decide) : PE X (.Name x pos) (tC v) := pe_glob hg hm r hd
end
/-- v is .int, .str, .non, .bl -/
theorem rty (n : String) : RelV (.ty n) (.type n) := rfl
theorem rref (a : Addr) : RelV (.ref a) (.ref a) := rfl

/-! ### what is wanted, by the head of the goal -/
section
variable {σ : L2.St} {H : Hp} {Q : VK} {ta tb te : TE} {x y v : V} {r : R2} {K : PySem.W.Frag}
theorem w_var {i : Nat} (h : σ[i]? = some (some v)) (q : Q v H) : tVar i σ H Q := ⟨v, h, q⟩
theorem w_c (q : Q v H) : tC v σ H Q := q
theorem w_op (h : ta σ H fun x H1 => tb σ H1 fun y H2 => r x y H2 Q) : tOp r ta tb σ H Q := h
theorem w_un {r : V → Hp → VK → Prop} (h : ta σ H fun x H1 => r x H1 Q) : tUn r ta σ H Q := h
theorem w_I0 {g : Int → Int → V} {i j : Int} (q : Q (g i j) H) : rI0 g (.int i) (.int j) H Q := ⟨i, j, rfl, rfl, q⟩
theorem w_I {C : Int → Int → Prop} {g : Int → Int → V} {i j : Int} (c : C i j) (q : Q (g i j) H) : rI C g (.int i) (.int j) H Q := ⟨i, j, rfl, rfl, c, q⟩
theorem w_U {g : Int → V} {i : Int} (q : Q (g i) H) : rU g (.int i) H Q := ⟨i, rfl, q⟩
theorem w_eq (s : scal x y = true) (q : Q (.bl (decide (x = y))) H) : rEq x y H Q := ⟨s, q⟩
theorem w_ne (s : scal x y = true) (q : Q (.bl (!decide (x = y))) H) : rNe x y H Q := ⟨s, q⟩
theorem w_bits (h : te σ H fun x H1 => ∃ i, x = .int i ∧ Q (.int (Builtin.Int.intBits i : Nat)) H1) : tBits te σ H Q := h
theorem w_bitsI {R : Int → Prop} {i : Int} (q : R i) : ∃ i', V.int i = .int i' ∧ R i' := ⟨i, rfl, q⟩
def TupK (xs : List V) (H : Hp) (Q : VK) : Prop := xs.length ≤ sizeLine ∧ ∀ p, H p = none → Q (.ref p) (upd H p (.tup xs))
def LstK (xs : List V) (H : Hp) (Q : VK) : Prop := xs.length ≤ sizeLine ∧ ∀ p, H p = none → Q (.ref p) (upd H p (.lst xs))
theorem w_tup {t : TA} (h : t σ H fun xs H1 => TupK xs H1 Q) : tTup t σ H Q := h
theorem w_lst {t : TA} (h : t σ H fun xs H1 => LstK xs H1 Q) : tLst t σ H Q := h
theorem w_nil {Q : List V → Hp → Prop} (q : Q [] H) : tNil σ H Q := q
theorem w_cons {ta : TE} {tr : TA} {Q : List V → Hp → Prop} (h : ta σ H fun x H1 => tr σ H1 fun xs H2 => Q (x :: xs) H2) : tCons ta tr σ H Q := h
theorem w_fld {f : Str} (h : ta σ H fun x H1 => ∃ a C dx fs v, x = .ref a ∧ H1 a = some (.ins C dx fs) ∧ Cls K C ∧ NoAttr K C f ∧ fs.lookup f = some v ∧ Q v H1) : tFld K ta f σ H Q := h
theorem w_fldI {R : V → Prop} {f : Str} {a C dx : Addr} {fs : List (Str × V)} (ho : H a = some (.ins C dx fs)) (c : Cls K C) (n : NoAttr K C f) (l : fs.lookup f = some v) (q : R v) :
    ∃ a' C dx fs v, V.ref a = .ref a' ∧ H a' = some (.ins C dx fs) ∧ Cls K C ∧ NoAttr K C f ∧ fs.lookup f = some v ∧ R v := ⟨a, C, dx, fs, v, rfl, ho, c, n, l, q⟩
theorem w_sfI {R : Addr → Addr → List (Str × V) → Addr → Prop} {f : Str} {a C dx : Addr} {fs : List (Str × V)} (ho : H a = some (.ins C dx fs)) (c : Cls K C) (n : NoAttr K C f) (l : fs.length < 1000) (q : R a dx fs C) :
    ∃ a' C dx fs, V.ref a = .ref a' ∧ H a' = some (.ins C dx fs) ∧ Cls K C ∧ NoAttr K C f ∧ fs.length < 1000 ∧ R a' dx fs C := ⟨a, C, dx, fs, rfl, ho, c, n, l, q⟩
theorem w_call {sp : Sp} {dvs : List V} {E : XK} {t : TA} (h : t σ H fun vs H1 => sp (vs ++ dvs) H1 Q E) : tCall sp dvs E t σ H Q := h
def MakeK (C : Addr) (sp : Sp) (vs : List V) (H1 : Hp) (Q : VK) (E : XK) : Prop := ∀ x dx, H1 x = none → H1 dx = none → dx ≠ x → sp (.ref x :: (vs ++ [])) (upd (upd H1 dx (.own x)) x (.ins C dx [])) (fun v H2 => v = .non ∧ Q (.ref x) H2) E
theorem w_make {C : Addr} {sp : Sp} {E : XK} {t : TA} (h : t σ H fun vs H1 => MakeK C sp vs H1 Q E) : tMake C sp [] E t σ H Q := h
theorem w_cb {r : List V → Hp → VK → Prop} {t : TA} (h : t σ H fun vs H1 => r vs H1 Q) : tCB r t σ H Q := h
theorem w_bl {R : Bool → Prop} {k : Bool} (q : R k) : ∃ k', V.bl k = .bl k' ∧ R k' := ⟨k, rfl, q⟩
theorem w_test {Q : Bool → Hp → Prop} (h : te σ H fun x H' => ∃ k, x = .bl k ∧ Q k H') : tTest te σ H Q := h
theorem w_B {Q : Bool → Hp → Prop} (h : te σ H fun x H' => ∃ k, x = .bl k ∧ Q k H') : tB te σ H Q := h
theorem w_andV (h : ta σ H fun x H1 => ∃ c, x = .bl c ∧ if c = true then tb σ H1 Q else Q (.bl false) H1) : tAndV ta tb σ H Q := h
theorem w_orV (h : ta σ H fun x H1 => ∃ c, x = .bl c ∧ if c = true then Q (.bl true) H1 else tb σ H1 Q) : tOrV ta tb σ H Q := h
theorem w_notV (h : ta σ H fun x H1 => ∃ c, x = .bl c ∧ Q (.bl (!c)) H1) : tNotV ta σ H Q := h
theorem w_and {t u : TT} {Q : Bool → Hp → Prop} (h : t σ H fun c H1 => if c = true then u σ H1 Q else Q false H1) : tAnd t u σ H Q := h
theorem w_or {t u : TT} {Q : Bool → Hp → Prop} (h : t σ H fun c H1 => if c = true then Q true H1 else u σ H1 Q) : tOr t u σ H Q := h
theorem w_not {t : TT} {Q : Bool → Hp → Prop} (h : t σ H fun c H1 => Q (!c) H1) : tNot t σ H Q := h
theorem w_if {t : TT} (h : t σ H fun c H1 => if c = true then ta σ H1 Q else tb σ H1 Q) : tIf t ta tb σ H Q := h
theorem w_isi {x c : V} {t u : Value} {b : Bool} (k : ClsV c u) (ty : TyX K H x t) (e : PySem.W.kitOne K t u = some b) (q : Q (.bl b) H) : rIsi K [x, c] H Q := ⟨x, c, t, u, b, rfl, k, ty, e, q⟩
/-! statements -/
variable {D : Ends} {t u : TS} {n bk ct : L2.St → Hp → Prop} {rt : VK}
theorem w_nx (q : n σ H) : (Ends.mk n rt bk ct).nx σ H := q
theorem w_rt (q : rt v H) : (Ends.mk n rt bk ct).rt v H := q
theorem w_bk (q : bk σ H) : (Ends.mk n rt bk ct).bk σ H := q
theorem w_ct (q : ct σ H) : (Ends.mk n rt bk ct).ct σ H := q
theorem w_seq (h : t { D with nx := u D } σ H) : tSeq t u D σ H := h
theorem w_cut {Mid : L2.St → Hp → Prop} (h1 : t { D with nx := Mid } σ H) (h2 : ∀ σ' H', Mid σ' H' → u D σ' H') : C8.tCut t u D σ H := ⟨Mid, h1, h2⟩
theorem w_next (h : D.nx σ H) : tNext D σ H := h
theorem w_brk (h : D.bk σ H) : tBreak D σ H := h
theorem w_cont (h : D.ct σ H) : tCont D σ H := h
theorem w_ret (h : te σ H D.rt) : tRet te D σ H := h
theorem w_ifS {c : TT} (h : c σ H fun b H1 => if b = true then t D σ H1 else u D σ H1) : tIfS c t u D σ H := h
theorem w_asg {g : TG} (h : te σ H fun x H1 => g x σ H1 D.nx) : tAsg te g D σ H := h
theorem w_name {i : Nat} {Q : L2.St → Hp → Prop} (h : Q (σ.set i (some v)) H) : gName i v σ H Q := h
theorem w_par {i j : Nat} {ta : TA} (h : ta σ H fun vs H1 => ∃ v w, vs = [v, w] ∧ D.nx ((σ.set i (some v)).set j (some w)) H1) : tPar i j ta D σ H := h
theorem w_parI {R : V → V → Prop} {v w : V} (h : R v w) : ∃ v' w', [v, w] = [v', w'] ∧ R v' w' := ⟨v, w, rfl, h⟩
theorem w_ii {R : Int → Int → Prop} {a b : Int} (h : R a b) : ∃ i j, [V.int a, V.int b] = [V.int i, V.int j] ∧ R i j := ⟨a, b, rfl, h⟩
theorem w_i1 {R : Int → Prop} {a : Int} (h : R a) : ∃ i, [V.int a] = [V.int i] ∧ R i := ⟨a, rfl, h⟩
theorem w_drop (h : te σ H fun _ H1 => D.nx σ H1) : tDrop te D σ H := h
theorem w_sFld {tv : TE} {f : Str} (h : tv σ H fun y H1 => ta σ H1 fun x H2 => ∃ a C dx fs, x = .ref a ∧ H2 a = some (.ins C dx fs) ∧ Cls K C ∧ NoAttr K C f ∧ fs.length < 1000 ∧ D.nx σ (upd H2 a (.ins C dx (putF f y fs)))) : sFld K ta tv f D σ H := h
theorem iT {A B : Prop} (h : A) : if true = true then A else B := by rw [if_pos rfl]; exact h
theorem iF {A B : Prop} (h : B) : if false = true then A else B := by rw [if_neg Bool.false_ne_true]; exact h
theorem iD {c : Prop} [Decidable c] {A B : Prop} (h1 : c → A) (h2 : ¬ c → B) : if decide c = true then A else B := by
  by_cases h : c
  · rw [decide_eq_true h]; exact iT (h1 h)
  · rw [decide_eq_false h]; exact iF (h2 h)
theorem iN {c : Prop} [Decidable c] {A B : Prop} (h1 : ¬ c → A) (h2 : c → B) : if (!decide c) = true then A else B := by
  by_cases h : c
  · rw [decide_eq_true h]; exact iF (h2 h)
  · rw [decide_eq_false h]; exact iT (h1 h)
theorem iB {b : Bool} {A B : Prop} (h1 : b = true → A) (h2 : b = false → B) : if b = true then A else B := by
  cases b with
  | true => exact iT (h1 rfl)
  | false => exact iF (h2 rfl)
end
end Rd
open Rd L2 in
section
local macro_rules | `(tactic| walk_at "rd") => `(tactic| first
  | with_reducible refine w_var rfl ?_
  | with_reducible refine w_c ?_
  | with_reducible refine w_op ?_)
end

set_option Elab.async false
set_option linter.all false
set_option maxRecDepth 100000
set_option maxHeartbeats 4000000
/-! The numbers of the program as plain functions. -/
namespace Nu
open PySem L2
abbrev bits (n : Int) : Int := (Builtin.Int.intBits n : Nat)
theorem bits_nn (n : Int) : 0 ≤ bits n := Int.natCast_nonneg _
theorem bits_le {n : Int} {k : Nat} : bits n ≤ k ↔ n.natAbs < 2 ^ k := by
  unfold bits
  rw [Int.ofNat_le]
  exact PySem.intBits_le_iff
theorem bits_zero : bits 0 = 0 := rfl
theorem pow_pos2 (k : Nat) : (0 : Int) < 2 ^ k := Int.pow_pos (by decide)
theorem pow_mono {a b : Nat} (h : a ≤ b) : (2 : Int) ^ a ≤ 2 ^ b := by
  have e : b = a + (b - a) := by omega
  rw [e, Int.pow_add]
  have h1 := pow_pos2 a
  have h2 := pow_pos2 (b - a)
  have := Int.mul_le_mul_of_nonneg_left (show (1 : Int) ≤ 2 ^ (b - a) by omega) (Int.le_of_lt h1)
  omega
theorem pow_cast (k : Nat) : ((2 ^ k : Nat) : Int) = 2 ^ k := by simp
theorem bits_lt_pow {n : Int} (h : 0 ≤ n) {k : Nat} : bits n ≤ k ↔ n < 2 ^ k := by
  rw [bits_le]
  have e := pow_cast k
  omega
/-- 2 ^ (bits n - 1) ≤ n < 2 ^ bits n -/
theorem lt_pow_bits {n : Int} (h : 0 ≤ n) : n < 2 ^ (Builtin.Int.intBits n) := (bits_lt_pow h).1 (Int.le_refl _)
theorem pow_bits_le {n : Int} (h : 0 < n) : (2 : Int) ^ (Builtin.Int.intBits n - 1) ≤ n := by
  have hb : Builtin.Int.intBits n ≠ 0 := by
    intro e
    have := lt_pow_bits (n := n) (by omega)
    rw [e] at this
    simp at this
    omega
  have h2 : ¬ bits n ≤ ((Builtin.Int.intBits n - 1 : Nat) : Int) := by
    unfold bits
    omega
  rw [bits_lt_pow (by omega)] at h2
  omega
theorem bits_pos {n : Int} (h : 0 < n) : 0 < Builtin.Int.intBits n := by
  have := lt_pow_bits (n := n) (by omega)
  rcases Nat.eq_zero_or_pos (Builtin.Int.intBits n) with e | e
  · rw [e] at this; simp at this; omega
  · exact e
/-- bits by its bounds -/
theorem bits_eq {n : Int} {k : Nat} (h1 : (2 : Int) ^ k ≤ n) (h2 : n < 2 ^ (k + 1)) : bits n = k + 1 := by
  have p := pow_pos2 k
  have a : bits n ≤ ((k + 1 : Nat) : Int) := (bits_lt_pow (by omega)).2 h2
  have b : ¬ bits n ≤ ((k : Nat) : Int) := by rw [bits_lt_pow (by omega)]; omega
  omega
theorem bits_shift {n : Int} (h : 0 < n) (k : Nat) : bits (n * 2 ^ k) = bits n + k := by
  have hp := bits_pos h
  have h1 := pow_bits_le h
  have h2 := lt_pow_bits (n := n) (by omega)
  have pk := pow_pos2 k
  have e : Builtin.Int.intBits n - 1 + 1 = Builtin.Int.intBits n := by omega
  have a1 : (2 : Int) ^ (Builtin.Int.intBits n - 1 + k) ≤ n * 2 ^ k := by
    rw [Int.pow_add]
    exact Int.mul_le_mul_of_nonneg_right h1 (by omega)
  have a2 : n * 2 ^ k < 2 ^ (Builtin.Int.intBits n - 1 + k + 1) := by
    rw [show Builtin.Int.intBits n - 1 + k + 1 = Builtin.Int.intBits n + k by omega, Int.pow_add]
    exact Int.mul_lt_mul_of_pos_right h2 pk
  rw [bits_eq a1 a2]
  unfold bits
  omega
theorem bits_mono {a b : Int} (h0 : 0 ≤ a) (h : a ≤ b) : bits a ≤ bits b := by
  have := lt_pow_bits (n := b) (by omega)
  exact (bits_lt_pow h0).2 (by omega)

/-! ### the lowest bit -/
theorem nat_low (k j : Nat) : (2 ^ k * (2 * j + 1)) &&& (2 ^ k * (2 * j + 1) - 1) = 2 ^ (k + 1) * j := by
  have hp : 0 < 2 ^ k := Nat.two_pow_pos k
  have e1 : 2 ^ k * (2 * j + 1) = 2 ^ (k + 1) * j + 2 ^ k := by
    rw [Nat.pow_succ, Nat.mul_add, Nat.mul_one, Nat.mul_assoc]
  have e2 : 2 ^ k * (2 * j + 1) - 1 = 2 ^ (k + 1) * j + (2 ^ k - 1) := by rw [e1]; omega
  have l1 : 2 ^ k < 2 ^ (k + 1) := by rw [Nat.pow_succ]; omega
  have l2 : 2 ^ k - 1 < 2 ^ (k + 1) := by omega
  rw [e2]
  conv => lhs; lhs; rw [e1]
  apply Nat.eq_of_testBit_eq
  intro i
  rw [Nat.testBit_and, Nat.testBit_two_pow_mul_add _ l1, Nat.testBit_two_pow_mul_add _ l2]
  have e3 : 2 ^ (k + 1) * j = 2 ^ (k + 1) * j + 0 := rfl
  rw [e3, Nat.testBit_two_pow_mul_add _ (Nat.two_pow_pos _)]
  by_cases hi : i < k + 1
  · rw [if_pos hi, if_pos hi, if_pos hi, Nat.testBit_two_pow, Nat.testBit_two_pow_sub_one, Nat.zero_testBit]
    by_cases hk : k = i
    · subst hk; simp
    · simp [hk]
  · rw [if_neg hi, if_neg hi, if_neg hi, Bool.and_self]
theorem nat_odd : ∀ n : Nat, 0 < n → ∃ k j : Nat, n = 2 ^ k * (2 * j + 1) := by
  intro n
  induction n using Nat.strongRecOn with
  | ind n ih =>
    intro h
    by_cases c : n % 2 = 1
    · exact ⟨0, n / 2, by simp; omega⟩
    · obtain ⟨k, j, e⟩ := ih (n / 2) (by omega) (by omega)
      refine ⟨k + 1, j, ?_⟩
      have e2 : n = 2 * (n / 2) := by omega
      rw [e2, e, Nat.pow_succ]
      rw [Nat.mul_comm (2 ^ k) 2, Nat.mul_assoc]
/-- what (top & -top).bit_length() - 1 is -/
def less (t : Int) : Int := bits (Builtin.bitAnd t (0 - t)) - 1
theorem less_spec {t : Int} (h : 0 < t) : ∃ (k : Nat) (m : Int), 0 ≤ m ∧ t = 2 ^ k * (2 * m + 1) ∧ less t = k := by
  obtain ⟨n, rfl⟩ := Int.eq_ofNat_of_zero_le (Int.le_of_lt h)
  obtain ⟨k, j, e⟩ := nat_odd n (by omega)
  have hp : 0 < 2 ^ k := Nat.two_pow_pos k
  refine ⟨k, j, Int.natCast_nonneg _, ?_, ?_⟩
  · rw [e]
    simp
  · have a : decide (0 ≤ (n : Int)) = true := decide_eq_true (Int.natCast_nonneg _)
    have b : decide (0 ≤ (0 - (n : Int))) = false := decide_eq_false (by omega)
    have c : Builtin.bitNot (0 - (n : Int)) = ((n - 1 : Nat) : Int) := by
      show -(0 - (n : Int)) - 1 = _
      omega
    have d : Builtin.bitAnd (n : Int) (0 - (n : Int)) = 2 ^ k := by
      unfold Builtin.bitAnd
      rw [a, b]
      show (n : Int) - ((((n : Int).toNat &&& (Builtin.bitNot (0 - (n : Int))).toNat : Nat)) : Int) = 2 ^ k
      rw [c, Int.toNat_natCast, Int.toNat_natCast, e, nat_low]
      have e1 : 2 ^ k * (2 * j + 1) = 2 ^ (k + 1) * j + 2 ^ k := by
        rw [Nat.pow_succ, Nat.mul_add, Nat.mul_one, Nat.mul_assoc]
      rw [e1, ← pow_cast k]
      omega
    unfold less
    rw [d, bits_eq (k := k) (Int.le_refl _) (by rw [Int.pow_succ]; have := pow_pos2 k; omega)]
    omega
/-- top and power with an odd top -/
def red (t p : Int) : Int × Int := if t = 0 then (0, 0) else (t / 2 ^ (less t).toNat, p + less t)
theorem red_zero (p : Int) : red 0 p = (0, 0) := if_pos rfl
theorem red_spec {t : Int} (h : 0 < t) (p : Int) : ∃ (k : Nat) (m : Int), 0 ≤ m ∧ t = 2 ^ k * (2 * m + 1) ∧ red t p = (2 * m + 1, p + k) := by
  obtain ⟨k, m, hm, e, l⟩ := less_spec h
  refine ⟨k, m, hm, e, ?_⟩
  unfold red
  rw [if_neg (by omega), l, Int.toNat_natCast]
  have : t / 2 ^ k = 2 * m + 1 := by
    rw [e]
    exact Int.mul_ediv_cancel_left _ (by have := pow_pos2 k; omega)
  rw [this]
def fitsB (t p : Int) : Bool := (decide (t < 9007199254740992) && (decide (-1074 ≤ p) && decide (bits t + p ≤ 1024))) || decide (t = 0)
theorem pow53 : (9007199254740992 : Int) = 2 ^ 53 := by decide
/-- what nearest hands to Float fits -/
theorem red_fits {t p : Int} (h0 : 0 ≤ t) (h1 : t ≤ 9007199254740992) (h2 : -1074 ≤ p) (h3 : bits t + p ≤ 1024) : fitsB (red t p).1 (red t p).2 = true := by
  by_cases z : t = 0
  · subst z; rw [red_zero]; decide
  · obtain ⟨k, m, hm, e, r⟩ := red_spec (t := t) (by omega) p
    rw [r]
    have pk := pow_pos2 k
    have hlt : 2 * m + 1 < 9007199254740992 := by
      by_cases k0 : k = 0
      · subst k0
        simp at e
        omega
      · have p2 : (2 : Int) ≤ 2 ^ k := by
          obtain ⟨j, rfl⟩ : ∃ j, k = j + 1 := ⟨k - 1, by omega⟩
          rw [Int.pow_succ]
          have := pow_pos2 j
          omega
        have : 2 * (2 * m + 1) ≤ 2 ^ k * (2 * m + 1) := Int.mul_le_mul_of_nonneg_right p2 (by omega)
        omega
    have hb : bits t = bits (2 * m + 1) + k := by
      rw [e, Int.mul_comm]
      exact bits_shift (by omega) k
    unfold fitsB
    rw [decide_eq_true hlt, decide_eq_true (show -1074 ≤ p + (k : Int) by omega), decide_eq_true (show bits (2 * m + 1) + (p + (k : Int)) ≤ 1024 by omega)]
    rfl
end Nu

set_option Elab.async false
set_option linter.all false
set_option maxRecDepth 100000
set_option maxHeartbeats 4000000
set_option autoImplicit false
namespace Nu
open PySem L2
def pw (t b : Int) : Int := if -1074 > bits t - bits b - 53 then -1074 else bits t - bits b - 53
def t1 (t b : Int) : Int := if pw t b < 0 then t * 2 ^ (0 - pw t b).toNat else t
def b1 (t b : Int) : Int := if pw t b < 0 then b else b * 2 ^ (pw t b).toNat
def b2 (t b : Int) : Int := if 9007199254740992 ≤ t1 t b / b1 t b then b1 t b * 2 ^ (1 : Int).toNat else b1 t b
def p2 (t b : Int) : Int := if 9007199254740992 ≤ t1 t b / b1 t b then pw t b + 1 else pw t b
def wq (t b : Int) : Int := t1 t b / b2 t b
def wr (t b : Int) : Int := t1 t b % b2 t b
def goesUp (t b : Int) : Prop := b2 t b < 2 * wr t b ∨ (2 * wr t b = b2 t b ∧ Builtin.bitAnd (wq t b) 1 = 1)
instance (t b : Int) : Decidable (goesUp t b) := inferInstanceAs (Decidable (_ ∨ _))
def wh (t b : Int) : Int := if goesUp t b then wq t b + 1 else wq t b
section
variable {t b : Int}
theorem pw_ge : -1074 ≤ pw t b := by unfold pw; split <;> omega
theorem pw_ge2 : bits t - bits b - 53 ≤ pw t b := by unfold pw; split <;> omega
theorem pw_le (h : bits t ≤ 2200) : pw t b ≤ 2200 := by
  have := bits_nn b
  unfold pw; split <;> omega
theorem bits_mul_pow {n : Int} (h : 0 ≤ n) (k : Nat) : bits (n * 2 ^ k) ≤ bits n + k := by
  by_cases z : n = 0
  · subst z; rw [Int.zero_mul, bits_zero]; omega
  · rw [bits_shift (by omega)]; omega
theorem t1_nn (h : 0 ≤ t) : 0 ≤ t1 t b := by
  unfold t1
  split
  · exact Int.mul_nonneg h (Int.le_of_lt (pow_pos2 _))
  · exact h
theorem b1_pos (h : 0 < b) : 0 < b1 t b := by
  unfold b1
  split
  · exact h
  · exact Int.mul_pos h (pow_pos2 _)
theorem b2_pos (h : 0 < b) : 0 < b2 t b := by
  have := b1_pos (t := t) h
  unfold b2
  split
  · exact Int.mul_pos this (pow_pos2 _)
  · exact this
theorem t1_bits (h : 0 ≤ t) (hb : bits t ≤ 2200) : bits (t1 t b) ≤ 3274 := by
  unfold t1
  split
  · have := bits_mul_pow h (0 - pw t b).toNat
    have := pw_ge (t := t) (b := b)
    omega
  · omega
theorem b1_bits (h : 0 < b) (ht : bits t ≤ 2200) (hb : bits b ≤ 2200) : bits (b1 t b) ≤ 4400 := by
  unfold b1
  split
  · omega
  · have := bits_mul_pow (n := b) (by omega) (pw t b).toNat
    have := pw_le (t := t) (b := b) ht
    omega
theorem b2_bits (h : 0 < b) (ht : bits t ≤ 2200) (hb : bits b ≤ 2200) : bits (b2 t b) ≤ 4401 := by
  have h1 := b1_bits h ht hb
  unfold b2
  split
  · have := bits_mul_pow (n := b1 t b) (by have := b1_pos (t := t) h; omega) (1 : Int).toNat
    have e : (((1 : Int).toNat : Nat) : Int) = 1 := rfl
    omega
  · omega
theorem p2_ge : -1074 ≤ p2 t b := by
  have := pw_ge (t := t) (b := b)
  unfold p2
  split <;> omega
/-- the quotient ahead of rounding has at most 54 bits -/
theorem t1_lt (ht : 0 ≤ t) (hb : 0 < b) : t1 t b < 18014398509481984 * b1 t b := by
  have h1 := lt_pow_bits (n := t) ht
  have h2 := pow_bits_le hb
  have hm := bits_pos hb
  have g := pw_ge2 (t := t) (b := b)
  have e54 : (18014398509481984 : Int) = 2 ^ 54 := by decide
  rw [e54]
  unfold bits at g
  generalize hn : Builtin.Int.intBits t = n at *
  generalize hk : Builtin.Int.intBits b = m at *
  unfold t1 b1
  split
  · rename_i c
    have a1 : t * 2 ^ (0 - pw t b).toNat < 2 ^ n * 2 ^ (0 - pw t b).toNat := Int.mul_lt_mul_of_pos_right h1 (pow_pos2 _)
    rw [← Int.pow_add] at a1
    have a2 : (2 : Int) ^ (n + (0 - pw t b).toNat) ≤ 2 ^ (54 + (m - 1)) := pow_mono (by omega)
    have a3 : (2 : Int) ^ (54 + (m - 1)) ≤ 2 ^ 54 * b := by
      rw [Int.pow_add]
      exact Int.mul_le_mul_of_nonneg_left h2 (by decide)
    omega
  · rename_i c
    have a2 : (2 : Int) ^ n ≤ 2 ^ (54 + (m - 1) + (pw t b).toNat) := pow_mono (by omega)
    have a3 : (2 : Int) ^ (54 + (m - 1) + (pw t b).toNat) ≤ 2 ^ 54 * (b * 2 ^ (pw t b).toNat) := by
      rw [Int.pow_add, Int.pow_add, Int.mul_assoc]
      exact Int.mul_le_mul_of_nonneg_left (Int.mul_le_mul_of_nonneg_right h2 (Int.le_of_lt (pow_pos2 _))) (by decide)
    omega
theorem wq_nn (ht : 0 ≤ t) (hb : 0 < b) : 0 ≤ wq t b := Int.ediv_nonneg (t1_nn ht) (Int.le_of_lt (b2_pos hb))
theorem wq_lt (ht : 0 ≤ t) (hb : 0 < b) : wq t b < 9007199254740992 := by
  have h := t1_lt ht hb
  have h1 := b1_pos (t := t) hb
  unfold wq b2
  split
  · have e : b1 t b * 2 ^ (1 : Int).toNat = 2 * b1 t b := by
      show b1 t b * 2 = _
      omega
    rw [e]
    refine Int.ediv_lt_of_lt_mul (by omega) ?_
    omega
  · omega
theorem wr_nn (hb : 0 < b) : 0 ≤ wr t b := Int.emod_nonneg _ (by have := b2_pos (t := t) hb; omega)
theorem wr_lt (hb : 0 < b) : wr t b < b2 t b := Int.emod_lt_of_pos _ (b2_pos hb)
theorem wh_nn (ht : 0 ≤ t) (hb : 0 < b) : 0 ≤ wh t b := by
  have := wq_nn ht hb
  unfold wh; split <;> omega
theorem wh_le (ht : 0 ≤ t) (hb : 0 < b) : wh t b ≤ 9007199254740992 := by
  have := wq_lt ht hb
  unfold wh; split <;> omega
theorem wh_fits (ht : 0 ≤ t) (hb : 0 < b) (h : bits (wh t b) + p2 t b ≤ 1024) : fitsB (red (wh t b) (p2 t b)).1 (red (wh t b) (p2 t b)).2 = true :=
  red_fits (wh_nn ht hb) (wh_le ht hb) p2_ge h
end
end Nu

set_option Elab.async false
set_option linter.all false
set_option maxRecDepth 100000
set_option maxHeartbeats 4000000
namespace Rd
open PySem PySem.Spec L2
section
variable {X : Cx}
theorem pgE (x : Str) {i : Int} {pos : Pos} (hm : ∃ t, X.mg x = some (.int i t)) (hg : Gl X x := by rfl) (hd : (x == ("__debug__" : Str)) = false := by decide) : PE X (.Name x pos) (tC (.int i)) := by
  obtain ⟨t, h⟩ := hm
  exact pe_glob hg h ⟨t, rfl⟩ hd
/-- e.f, as a target -/
def gFld (K : PySem.W.Frag) (to : TE) (f : Str) : TG := fun v σ H Q => to σ H fun x H1 => ∃ a C dx fs, x = .ref a ∧ H1 a = some (.ins C dx fs) ∧ Cls K C ∧ NoAttr K C f ∧ fs.length < 1000 ∧ Q σ (upd H1 a (.ins C dx (putF f v fs)))
theorem pg_fld {o : Expr} {f : Str} {pos : Pos} {to : TE} (ho : PE X o to) : PG X (.Attribute o f pos) (gFld X.K to f) := by
  refine ⟨fun pins s σ H v u Q I r h => ?_⟩
  rw [assign_Attribute]
  refine wpAny_bind (wpAny_holding (thn (ho.run pins s σ H _ I h) fun ov s1 ⟨x, H1, I1, r1, a, C, dx, fs, ex, ea, c, n, l, q1⟩ => ?_))
  subst ex
  obtain rfl : ov = Value.ref a := r1
  refine wpAny_bind (wpAny_standAt (wpAny_bind (wpAny_holding (setattr_ok I1 ea c n l r fun s3 I3 => ?_))))
  exact wpAny_release ⟨σ, _, I3, q1⟩
end
theorem same_get {H H' : Hp} {a : Addr} {o : HO} (s : Same H H') (h : H a = some o) : H' a = some o := s a o h
theorem same_upd {H : Hp} {a : Addr} {o : HO} (h : H a = none) : Same H (upd H a o) := fun b u e => by rw [upd_ne (ne_of_none e h)]; exact e
section
variable {σ : L2.St} {H : Hp} {Q : VK} {ta tb te : TE} {x y v : V} {K : PySem.W.Frag} {xs : List V}
theorem w_tupI (hl : xs.length ≤ 1000) (q : ∀ p H', Same H H' → H p = none → H' p = some (.tup xs) → Q (.ref p) H') : TupK xs H Q :=
  ⟨Nat.le_trans hl (by decide), fun p hp => q p _ (same_upd hp) hp upd_same⟩
theorem w_lstI (hl : xs.length ≤ 1000) (q : ∀ p H', Same H H' → H p = none → H' p = some (.lst xs) → Q (.ref p) H') : LstK xs H Q :=
  ⟨Nat.le_trans hl (by decide), fun p hp => q p _ (same_upd hp) hp upd_same⟩
theorem w_tup1 {x1 : V} (q : ∀ p H', Same H H' → H p = none → H' p = some (.tup [x1]) → Q (.ref p) H') : TupK [x1] H Q := w_tupI (by show 1 ≤ 1000; decide) q
theorem w_lst1 {x1 : V} (q : ∀ p H', Same H H' → H p = none → H' p = some (.lst [x1]) → Q (.ref p) H') : LstK [x1] H Q := w_lstI (by show 1 ≤ 1000; decide) q
theorem w_tup2 {x1 x2 : V} (q : ∀ p H', Same H H' → H p = none → H' p = some (.tup [x1, x2]) → Q (.ref p) H') : TupK [x1, x2] H Q := w_tupI (by show 2 ≤ 1000; decide) q
theorem w_lst2 {x1 x2 : V} (q : ∀ p H', Same H H' → H p = none → H' p = some (.lst [x1, x2]) → Q (.ref p) H') : LstK [x1, x2] H Q := w_lstI (by show 2 ≤ 1000; decide) q
theorem w_tup3 {x1 x2 x3 : V} (q : ∀ p H', Same H H' → H p = none → H' p = some (.tup [x1, x2, x3]) → Q (.ref p) H') : TupK [x1, x2, x3] H Q := w_tupI (by show 3 ≤ 1000; decide) q
theorem w_lst4 {x1 x2 x3 x4 : V} (q : ∀ p H', Same H H' → H p = none → H' p = some (.lst [x1, x2, x3, x4]) → Q (.ref p) H') : LstK [x1, x2, x3, x4] H Q := w_lstI (by show 4 ≤ 1000; decide) q
theorem w_lst3 {x1 x2 x3 : V} (q : ∀ p H', Same H H' → H p = none → H' p = some (.lst [x1, x2, x3]) → Q (.ref p) H') : LstK [x1, x2, x3] H Q := w_lstI (by show 3 ≤ 1000; decide) q
theorem w_in {p : Addr} (h : H p = some (.tup xs)) (f1 : flatV x = true) (f2 : xs.all flatV = true) (q : Q (.bl (inV x xs)) H) : rIn K false x (.ref p) H Q := ⟨p, xs, rfl, .inr (SqT.of h), f1, f2, q⟩
theorem w_nin {p : Addr} (h : H p = some (.tup xs)) (f1 : flatV x = true) (f2 : xs.all flatV = true) (q : Q (.bl (!inV x xs)) H) : rIn K true x (.ref p) H Q := ⟨p, xs, rfl, .inr (SqT.of h), f1, f2, q⟩
theorem w_gtup {n : Nat} {t : TGs} {a : Addr} {Q : L2.St → Hp → Prop} (h : H a = some (.tup xs)) (hn : xs.length = n) (q : t xs σ H Q) : gTup K n t (.ref a) σ H Q := ⟨a, xs, rfl, SqT.of h, hn, q⟩
theorem w_gcons {t : TG} {u : TGs} {v : V} {r : List V} {Q : L2.St → Hp → Prop} (h : t v σ H fun σ' H' => u r σ' H' Q) : gCons t u (v :: r) σ H Q := ⟨v, r, rfl, h⟩
theorem w_gnil {Q : L2.St → Hp → Prop} (h : Q σ H) : gNil [] σ H Q := ⟨rfl, h⟩
theorem w_ixT {p : Addr} {i : Int} (h : H p = some (.tup xs)) (ha : atI xs i = some v) (q : Q v H) : rIxT K (.ref p) (.int i) H Q := ⟨p, xs, i, v, rfl, rfl, SqT.of h, ha, q⟩
theorem w_ixL {p : Addr} {i : Int} (h : H p = some (.lst xs)) (ha : atI xs i = some v) (q : Q v H) : rIxL K (.ref p) (.int i) H Q := ⟨p, xs, i, v, rfl, rfl, SqL.of h, ha, q⟩
theorem w_isN (q : Q (.bl (decide (x = .non))) H) : (V.non = .non ∧ Q (.bl (decide (x = .non))) H) := ⟨rfl, q⟩
theorem dec_ii {i j : Int} : decide (V.int i = V.int j) = decide (i = j) := by
  by_cases h : i = j
  · subst h; simp
  · rw [decide_eq_false h, decide_eq_false (fun e => h (V.int.inj e))]
theorem dec_ss {i j : Str} : decide (V.str i = V.str j) = decide (i = j) := by
  by_cases h : i = j
  · subst h; simp
  · rw [decide_eq_false h, decide_eq_false (fun e => h (V.str.inj e))]
theorem dec_is {i : Int} {j : Str} : decide (V.int i = V.str j) = false := decide_eq_false (fun e => nomatch e)
theorem dec_si {i : Int} {j : Str} : decide (V.str j = V.int i) = false := decide_eq_false (fun e => nomatch e)
/-- the test of two ints for equality -/
theorem w_eqI {i j : Int} (q : Q (.bl (decide (i = j))) H) : rEq (.int i) (.int j) H Q := ⟨rfl, by rw [dec_ii]; exact q⟩
theorem w_neI {i j : Int} (q : Q (.bl (!decide (i = j))) H) : rNe (.int i) (.int j) H Q := ⟨rfl, by rw [dec_ii]; exact q⟩
theorem w_eqS {i j : Str} (q : Q (.bl (decide (i = j))) H) : rEq (.str i) (.str j) H Q := ⟨rfl, by rw [dec_ss]; exact q⟩
theorem w_eqIS {i : Int} {j : Str} (q : Q (.bl false) H) : rEq (.int i) (.str j) H Q := ⟨rfl, by rw [dec_is]; exact q⟩
theorem w_eqSI {i : Int} {j : Str} (q : Q (.bl false) H) : rEq (.str j) (.int i) H Q := ⟨rfl, by rw [dec_si]; exact q⟩
/-- the object ahead of a method's call -/
def MethK (C : Addr) (m : Str) (R : V → Hp → Prop) (x : V) (H : Hp) : Prop := ∃ a dx fs, x = .ref a ∧ H a = some (.ins C dx fs) ∧ fs.lookup m = none ∧ R x H
theorem w_meth {C : Addr} {m : Str} {sp : Sp} {dvs : List V} {E : XK} {t : TA} (h : ta σ H fun x H1 => MethK C m (fun x H1 => t σ H1 fun vs H2 => sp (x :: (vs ++ dvs)) H2 Q E) x H1) : tMeth C m sp dvs E ta t σ H Q := h
theorem w_methI {C : Addr} {m : Str} {R : V → Hp → Prop} {a dx : Addr} {fs : List (Str × V)} (h : H a = some (.ins C dx fs)) (l : fs.lookup m = none) (q : R (.ref a) H) : MethK C m R (.ref a) H := ⟨a, dx, fs, rfl, h, l, q⟩
theorem w_nn {R : Prop} (q : R) : V.non = V.non ∧ R := ⟨rfl, q⟩
end
/-- a class whose __init__ has defaults dvs behind what is written -/
structure KnCD (P : Program) (w : World) (K : PySem.W.Frag) (mg : Str → Option Value) (base : Heap) (CX : CXT) (k : Nat) (x : Str) (C : Addr) (ps : List Str) (dvs : List V) (sp : Sp) : Prop where
  ex : ∃ f fd ds, mg x = some (.ref C) ∧ Mk K C f ∧ Vals dvs ds ∧ Binds K fd ps ds ∧ FnOk P w K mg base CX k f fd ps sp
theorem pkCD {X : Cx} {k j : Nat} {x : Str} {ps : List Str} {sp : Sp} {p pos : Pos} {e : Expr} {es : List Expr} {t : TA} {C : Addr} {dvs : List V} (h : KnCD X.prog X.w X.K X.mg X.base CX0 k x C ps dvs sp) (hr : Room j X.A) (ha : PA X (e :: es) t) (hj : k + 1 ≤ j := by decide) (hg : Gl X x := by rfl) (hdb : (x == ("__debug__" : Str)) = false := by decide)
    (he : starEach (e :: es) X.env = (false, eval e X.env) :: starEach es X.env := by rfl) (hpl : (backTo pos (starEach es X.env)).any (·.1) = false := by rfl) : PE X (.Call (.Name x p) (e :: es) [] pos) (tMake C sp dvs E0 t) := by
  obtain ⟨f, fd, ds, a, b, c, d, g⟩ := h.ex
  exact pe_make b g (hr.mono hj) hg a d c pass0 ha hdb he hpl
def MakeKD (C : Addr) (sp : Sp) (dvs vs : List V) (H1 : Hp) (Q : VK) (E : XK) : Prop := ∀ x dx, H1 x = none → H1 dx = none → dx ≠ x → sp (.ref x :: (vs ++ dvs)) (upd (upd H1 dx (.own x)) x (.ins C dx [])) (fun v H2 => v = .non ∧ Q (.ref x) H2) E
theorem w_makeD {C : Addr} {sp : Sp} {E : XK} {t : TA} {dvs : List V} {σ : L2.St} {H : Hp} {Q : VK} (h : t σ H fun vs H1 => MakeKD C sp dvs vs H1 Q E) : tMake C sp dvs E t σ H Q := h
/-- xs * k -/
theorem w_rep {l : Addr} {k : Int} {xs : List V} {H : Hp} {Q : VK} (h : H l = some (.lst xs)) (h1 : -(2 ^ 63) ≤ k) (h2 : k < 2 ^ 63) (h3 : xs.length * k.toNat ≤ sizeLine) (q : ∀ p H', Same H H' → H p = none → H' p = some (.lst (List.replicate k.toNat xs).flatten) → Q (.ref p) H') : rRep (.ref l) (.int k) H Q :=
  ⟨l, k, xs, rfl, rfl, h, h1, h2, h3, fun p hp => q p _ (same_upd hp) hp upd_same⟩
theorem w_lenL {p : Addr} {K : PySem.W.Frag} {xs : List V} {H : Hp} {R : List V → Prop} (h : H p = some (.lst xs)) (q : R xs) : ∃ p' ys, [V.ref p] = [V.ref p'] ∧ (SqL K H p' ys ∨ SqT K H p' ys) ∧ R ys := ⟨p, xs, rfl, .inl (SqL.of h), q⟩
/-- all but what stands at x is as it was -/
def Oth (x : Addr) (H H' : Hp) : Prop := ∀ b o, b ≠ x → H b = some o → H' b = some o
theorem Oth.refl {x : Addr} {H : Hp} : Oth x H H := fun _ _ _ e => e
theorem Oth.same {x : Addr} {H H1 H2 : Hp} (a : Oth x H H1) (s : Same H1 H2) : Oth x H H2 := fun b o hb e => s b o (a b o hb e)
theorem Oth.put {x : Addr} {H H1 : Hp} {o : HO} (a : Oth x H H1) : Oth x H (upd H1 x o) := fun b u hb e => by rw [upd_ne hb]; exact a b u hb e
theorem Oth.trans {x : Addr} {H H1 H2 : Hp} (a : Oth x H H1) (b : Oth x H1 H2) : Oth x H H2 := fun c o hc e => b c o hc (a c o hc e)
theorem Same.oth {x : Addr} {H H1 : Hp} (s : Same H H1) : Oth x H H1 := fun b o _ e => s b o e
end Rd

set_option Elab.async false
set_option linter.all false
set_option maxRecDepth 100000
set_option autoImplicit false
set_option maxHeartbeats 4000000
namespace Rd
open PySem PySem.Spec PyProof.Rows PySem.SeqAt L2
/-! bool - bool -/
theorem sub_bools (a b : Bool) : Gives (Builtin.«int.__sub__» ⟨[.bool a, .bool b], []⟩) (.int ((if a = true then (1 : Int) else 0) - if b = true then (1 : Int) else 0)) :=
  .of_wp fun M A E s Q h => by obtain ⟨hp, g, d, tk, os⟩ := s; wp_walk; exact ⟨_, rfl, h⟩
def rSubB : R2 := fun x y H Q => ∃ a b, x = .bl a ∧ y = .bl b ∧ Q (.int ((if a = true then (1 : Int) else 0) - if b = true then (1 : Int) else 0)) H
theorem op_sub_bb {X : Cx} : OpR X (binaryOp .Sub) rSubB := by
  intro pins s σ H x y v u Q I rx ry h
  obtain ⟨a, b, rfl, rfl, q⟩ := h
  cases rx
  cases ry
  exact binaryOp_gives (op := .Sub) (T := "bool") rfl rfl F.fills_bool_sub F.slot_bool_sub F.entry_int_sub (F.args_int_sub_2 _ _) (sub_bools a b) trivial ⟨.int _, H, I.tok _, ⟨_, rfl⟩, q⟩
theorem w_subB {H : Hp} {Q : VK} {a b : Bool} (q : Q (.int ((if a = true then (1 : Int) else 0) - if b = true then (1 : Int) else 0)) H) : rSubB (.bl a) (.bl b) H Q := ⟨a, b, rfl, rfl, q⟩
/-! == of instances without an __eq__ of their own -/
section
variable {prog : Program} {w : World} {A : Around} {E : Value → Shared → Prop} {s : Shared} {K : PySem.W.Frag} {x y C : Addr} {ox oy : Obj} {od od' : Option Obj}
theorem call_objEqO {Q : Value → Shared → Prop} (X : K.In s.heap) (I : PySem.W.InstAt s.heap x ox C od) (hm : PySem.W.mroIn K C (.type "object") = some true) (hx : s.heap.get? x = some ox) (hy : s.heap.get? y = some oy) (hxy : x ≠ y) (hnt : ox.cls ≠ .type "tuple") (hq : Q .notImplemented s) :
    wpAny (model prog w) A (call (.builtin "object.__eq__") [.ref x, .ref y]) Q E s :=
  wpAny_call (codeAny_call_builtin F.cmp_object.eq.plain F.cmpEntry_eq (PySem.W.check_slot F.cmpKind_eq F.cmpSplit_eq (I.type.andThen (PySem.W.looks_mroIn X hm)) (F.cmpArgs_eq _ _) (objEq_entry_other hxy hx hy hnt hq)))
theorem call_objEqS {Q : Value → Shared → Prop} (X : K.In s.heap) (I : PySem.W.InstAt s.heap x ox C od) (hm : PySem.W.mroIn K C (.type "object") = some true) (hq : Q (.bool true) s) :
    wpAny (model prog w) A (call (.builtin "object.__eq__") [.ref x, .ref x]) Q E s :=
  wpAny_call (codeAny_call_builtin F.cmp_object.eq.plain F.cmpEntry_eq (PySem.W.check_slot F.cmpKind_eq F.cmpSplit_eq (I.type.andThen (PySem.W.looks_mroIn X hm)) (F.cmpArgs_eq _ _) (objEq_entry_same hq)))
theorem rc_other (hu : A.units < cLine) (X : K.In s.heap) (I : PySem.W.InstAt s.heap x ox C od) (I' : PySem.W.InstAt s.heap y oy C od') (hx : s.heap.get? x = some ox) (hy : s.heap.get? y = some oy) (hnt : ox.cls ≠ .type "tuple") (hnt' : oy.cls ≠ .type "tuple") (hxy : x ≠ y)
    (hm : PySem.W.mroIn K C (.type "object") = some true) (hs : PySem.W.findIn K (.ref C) "__eq__" = some (some (.builtin "object.__eq__"))) : RcAt A s (.ref x) (.ref y) false := fun prog w E Q h => by
  have one : wpAny (model prog w) A (tryCompare (.ref x) "__eq__" (.ref y)) (fun r s' => r = none ∧ s' = s) E s := by
    unfold tryCompare
    exact wpAny_bind (HN.ifBound_objEq X I hs (call_objEqO X I hm hx hy hxy hnt (wpAny_pure ⟨rfl, rfl⟩)))
  have two : wpAny (model prog w) A (tryCompare (.ref y) "__eq__" (.ref x)) (fun r s' => r = none ∧ s' = s) E s := by
    unfold tryCompare
    exact wpAny_bind (HN.ifBound_objEq X I' hs (call_objEqO X I' hm hy hx hxy.symm hnt' (wpAny_pure ⟨rfl, rfl⟩)))
  simp only [richCompare, cmpInfo_Eq, oneThing_ref]
  refine wpAny_holding (wpAny_bind (wpAny_cRoomFor hu ?_))
  refine wpAny_bind (I.type.here ?_)
  refine wpAny_bind (I'.type.here ?_)
  rw [if_neg (by simp)]
  refine wpAny_bind (wpAny_pure ?_)
  simp only [Bool.false_eq_true, if_false, Bool.not_false, if_true]
  refine wpAny_bind (m := tryCompare (.ref x) _ (.ref y)) (wpAny_mono one (fun r s1 z => ?_) fun _ _ e => e)
  obtain ⟨z1, z2⟩ := z
  subst z1
  subst z2
  refine wpAny_bind (m := tryCompare (.ref y) _ (.ref x)) (wpAny_mono two (fun r s2 z => ?_) fun _ _ e => e)
  obtain ⟨z1, z2⟩ := z
  subst z1
  subst z2
  exact wpAny_bind (wpAny_rule (wpAny_bind (wpAny_isSame_ref_other hxy hx hy hnt (wpAny_pure h))))
theorem rc_self (hu : A.units < cLine) (X : K.In s.heap) (I : PySem.W.InstAt s.heap x ox C od) (hm : PySem.W.mroIn K C (.type "object") = some true) (hs : PySem.W.findIn K (.ref C) "__eq__" = some (some (.builtin "object.__eq__"))) : RcAt A s (.ref x) (.ref x) true := fun prog w E Q h => by
  have one : wpAny (model prog w) A (tryCompare (.ref x) "__eq__" (.ref x)) (fun r s' => r = some (.bool true) ∧ s' = s) E s := by
    unfold tryCompare
    exact wpAny_bind (HN.ifBound_objEq X I hs (call_objEqS X I hm (wpAny_pure ⟨rfl, rfl⟩)))
  simp only [richCompare, cmpInfo_Eq, oneThing_ref]
  refine wpAny_holding (wpAny_bind (wpAny_cRoomFor hu ?_))
  refine wpAny_bind (I.type.here ?_)
  refine wpAny_bind (I.type.here ?_)
  rw [if_neg (by simp)]
  refine wpAny_bind (wpAny_pure ?_)
  simp only [Bool.false_eq_true, if_false, Bool.not_false, if_true]
  refine wpAny_bind (m := tryCompare (.ref x) _ (.ref x)) (wpAny_mono one (fun r s1 z => ?_) fun _ _ e => e)
  obtain ⟨z1, z2⟩ := z
  subst z1
  subst z2
  exact wpAny_pure h
theorem rc_none2 (hu : A.units < cLine) (X : K.In s.heap) (I : PySem.W.InstAt s.heap x ox C od) (hm : PySem.W.mroIn K C (.type "object") = some true) (hs : PySem.W.findIn K (.ref C) "__eq__" = some (some (.builtin "object.__eq__")))
    (hsub : PySem.W.subIn K (.ref C) (.type "NoneType") = some false) : RcAt A s .none (.ref x) false := fun prog w E Q h => by
  have one : wpAny (model prog w) A (tryCompare (.ref x) "__eq__" .none) (fun r s' => r = none ∧ s' = s) E s := by
    unfold tryCompare
    exact wpAny_bind (HN.ifBound_objEq X I hs (HN.call_objEq X I hm (wpAny_pure ⟨rfl, rfl⟩)))
  have two : wpAny (model prog w) A (tryCompare .none "__eq__" (.ref x)) (fun r s' => r = none ∧ s' = s) E s :=
    wpAny_tryCompare_declines (show s.TypeIs .none "NoneType" from rfl) F.slot_NoneType_eq_refl (call_gives F.slot_NoneType_eq_refl rfl F.entry_NoneType_eq (F.args_NoneType_eq_2 _ _) (NoneType___eq___none_ref_0 x) ⟨rfl, rfl, rfl⟩)
  simp only [richCompare, cmpInfo_Eq]
  refine wpAny_holding (wpAny_bind (wpAny_cRoomFor hu ?_))
  refine wpAny_bind (wpAny_typeOf (show s.TypeIs .none "NoneType" from rfl) ?_)
  refine wpAny_bind (I.type.here ?_)
  rw [if_pos (by simp)]
  refine wpAny_bind ((PySem.W.looks_subIn X hsub).here ?_)
  simp only [Bool.false_eq_true, if_false, Bool.not_false, if_true]
  refine wpAny_bind (m := tryCompare .none _ (.ref x)) (wpAny_mono two (fun r s1 z => ?_) fun _ _ e => e)
  obtain ⟨z1, z2⟩ := z
  subst z1
  subst z2
  refine wpAny_bind (m := tryCompare (.ref x) _ .none) (wpAny_mono one (fun r s2 z => ?_) fun _ _ e => e)
  obtain ⟨z1, z2⟩ := z
  subst z1
  subst z2
  exact wpAny_bind (wpAny_rule (wpAny_bind (wpAny_of_eq (rfl : isSame .none (.ref x) = pure false) (wpAny_pure h))))
end
/-- what the text's class at C must have for the == of object -/
structure ObjC (K : PySem.W.Frag) (C : Addr) : Prop where
  hm : PySem.W.mroIn K C (.type "object") = some true
  hs : PySem.W.findIn K (.ref C) "__eq__" = some (some (.builtin "object.__eq__"))
  hn : PySem.W.subIn K (.ref C) (.type "NoneType") = some false
def InsV (C : Addr) (H : Hp) (x : V) : Prop := ∃ a dx fs, x = .ref a ∧ H a = some (.ins C dx fs)
def rEqO (C : Addr) : R2 := fun x y H Q => (scal x y = true ∨ (InsV C H x ∧ (y = .non ∨ InsV C H y)) ∨ (x = .non ∧ InsV C H y)) ∧ Q (.bl (decide (x = y))) H
theorem op_eqO {X : Cx} {C : Addr} (hu : X.A.units < cLine) (O : ObjC X.K C) : OpR X (compareOp .Eq) (rEqO C) := by
  intro pins s σ H x y v u Q I rx ry h
  obtain ⟨c, q⟩ := h
  rcases c with c | ⟨⟨a, dx, fs, rfl, ha⟩, c⟩ | ⟨rfl, ⟨b, dy, gs, rfl, hb⟩⟩
  · exact op_eq pins s σ H x y v u Q I rx ry ⟨c, q⟩
  · cases rx
    obtain ⟨mA, OA, _⟩ := ins_get I.hok ha
    obtain ⟨od, J, _⟩ := OA.look
    have ga : s.heap.get? a = some (PySem.W.instObj C dx) := OA.obj
    rcases c with rfl | ⟨b, dy, gs, rfl, hb⟩
    · cases ry
      show wpAny (model X.prog X.w) X.A (richCompare .Eq _ _) (EP X pins σ Q) X.xe s
      refine HN.rc_none hu I.kIn J O.hm O.hs X.prog X.w X.xe _ ⟨.bl false, H, I, rfl, ?_⟩
      rw [decide_eq_false (fun e => nomatch e)] at q
      exact q
    · cases ry
      obtain ⟨mB, OB, _⟩ := ins_get I.hok hb
      obtain ⟨od', J', _⟩ := OB.look
      have gb : s.heap.get? b = some (PySem.W.instObj C dy) := OB.obj
      show wpAny (model X.prog X.w) X.A (richCompare .Eq _ _) (EP X pins σ Q) X.xe s
      by_cases hab : a = b
      · subst hab
        refine rc_self hu I.kIn J O.hm O.hs X.prog X.w X.xe _ ⟨.bl true, H, I, rfl, ?_⟩
        rw [decide_eq_true rfl] at q
        exact q
      · refine rc_other hu I.kIn J J' ga gb (by intro e; cases e) (by intro e; cases e) hab O.hm O.hs X.prog X.w X.xe _ ⟨.bl false, H, I, rfl, ?_⟩
        rw [decide_eq_false (fun e => hab (V.ref.inj e))] at q
        exact q
  · cases rx
    cases ry
    obtain ⟨mB, OB, _⟩ := ins_get I.hok hb
    obtain ⟨od', J', _⟩ := OB.look
    show wpAny (model X.prog X.w) X.A (richCompare .Eq _ _) (EP X pins σ Q) X.xe s
    refine rc_none2 hu I.kIn J' O.hm O.hs O.hn X.prog X.w X.xe _ ⟨.bl false, H, I, rfl, ?_⟩
    rw [decide_eq_false (fun e => nomatch e)] at q
    exact q
end Rd

set_option Elab.async false
set_option linter.all false
set_option maxRecDepth 100000
set_option autoImplicit false
set_option maxHeartbeats 4000000
namespace Rd
open PySem PySem.Spec PyProof.Rows L2
section
variable {σ : L2.St} {H : Hp} {Q : VK} {K : PySem.W.Frag}
theorem w_int1 {R : Int → Prop} {S : Bool → Prop} {i : Int} (q : R i) : (∃ i', [V.int i] = [V.int i'] ∧ R i') ∨ (∃ k, [V.int i] = [V.bl k] ∧ S k) := .inl ⟨i, rfl, q⟩
theorem w_intB {R : Int → Prop} {S : Bool → Prop} {k : Bool} (q : S k) : (∃ i', [V.bl k] = [V.int i'] ∧ R i') ∨ (∃ k', [V.bl k] = [V.bl k'] ∧ S k') := .inr ⟨k, rfl, q⟩
theorem w_gsub {to ti : TE} {t : TSet} {v : V} {Q : L2.St → Hp → Prop} (h : to σ H fun o H1 => ti σ H1 fun i H2 => t o i v H2 fun H3 => Q σ H3) : gSub to ti t v σ H Q := h
theorem w_setL {p : Addr} {xs : List V} {k : Int} {j : Nat} {v : V} {Q : Hp → Prop} (h : H p = some (.lst xs)) (hj : ixN xs.length k = some j) (q : Q (upd H p (.lst (xs.set j v)))) : rSetL (.ref p) (.int k) v H Q := ⟨p, xs, k, j, rfl, rfl, h, hj, q⟩
theorem w_for {wi : TI} {g : TG} {tb : TS} {D : Ends} (h : wi σ H fun J H1 => ∃ W : Nat → Nat → L2.St → Hp → Prop, (∃ m, W 0 m σ H1) ∧ ∀ i m σ H, W i m σ H →
  (J.stop i H ∧ D.nx σ H) ∨ (J.go i H ∧ ∃ N : L2.St → Hp → Prop, (∀ σ' H', N σ' H' → ∃ m', m' < m ∧ W (i + 1) m' σ' H') ∧ ∀ x H', J.yld i H x H' → g x σ H' fun σ2 H2 => tb { D with nx := N, ct := N, bk := D.nx } σ2 H2)) : tFor wi g tb D σ H := h
def Rng1K (R : It → Hp → Prop) (j : Int) (H : Hp) : Prop := -(2 ^ 62) ≤ j ∧ j < 2 ^ 62 ∧ R (Itr 0 j.toNat) H
theorem w_rng1 {ta : TA} {R : It → Hp → Prop} (h : ta σ H fun vs H1 => ∃ j : Int, vs = [.int j] ∧ -(2 ^ 62) ≤ j ∧ j < 2 ^ 62 ∧ R (Itr 0 j.toNat) H1) : iRng1 ta σ H R := h
theorem w_iList {tl : TE} {R : It → Hp → Prop} (h : tl σ H fun x H1 => ∃ a, x = .ref a ∧ (∃ xs, SqL K H1 a xs) ∧ R (Itl K a) H1) : iList K tl σ H R := h
theorem w_iTup {tl : TE} {R : It → Hp → Prop} (h : tl σ H fun x H1 => ∃ a, x = .ref a ∧ (∃ xs, SqT K H1 a xs) ∧ R (Itt K a) H1) : iTup K tl σ H R := h
theorem w_rng1I {R : Int → Prop} {j : Int} (h1 : -(2 ^ 62) ≤ j) (h2 : j < 2 ^ 62) (q : R j) : ∃ j' : Int, [V.int j] = [V.int j'] ∧ -(2 ^ 62) ≤ j' ∧ j' < 2 ^ 62 ∧ R j' := ⟨j, rfl, h1, h2, q⟩
theorem w_iListI {R : Addr → Prop} {a : Addr} {xs : List V} (h : H a = some (.lst xs)) (q : R a) : ∃ a', V.ref a = .ref a' ∧ (∃ xs, SqL K H a' xs) ∧ R a' := ⟨a, rfl, ⟨xs, SqL.of h⟩, q⟩
theorem w_iTupI {R : Addr → Prop} {a : Addr} {xs : List V} (h : H a = some (.tup xs)) (q : R a) : ∃ a', V.ref a = .ref a' ∧ (∃ xs, SqT K H a' xs) ∧ R a' := ⟨a, rfl, ⟨xs, SqT.of h⟩, q⟩
/-- xs + ys, lists -/
theorem w_cat {l b : Addr} {xs zs : List V} (h : H l = some (.lst xs)) (h' : H b = some (.lst zs)) (hz : xs.length + zs.length ≤ sizeLine) (q : ∀ p H', Same H H' → H p = none → H' p = some (.lst (xs ++ zs)) → Q (.ref p) H') : rCat (.ref l) (.ref b) H Q :=
  ⟨l, b, xs, zs, rfl, rfl, h, h', hz, fun p hp => q p _ (same_upd hp) hp upd_same⟩
end
theorem cmulW {i j : Int} (h : (Builtin.Int.intBits i : Int) + (Builtin.Int.intBits j : Int) ≤ 134217728) : CMulX i j := h
theorem cpow {i j : Int} (h0 : 0 ≤ j) (h1 : j ≤ 1000000) (h2 : i.natAbs < 2 ^ 64) : CPow i j := ⟨h0, h1, h2⟩
end Rd

set_option Elab.async false
set_option linter.all false
set_option maxRecDepth 100000
set_option autoImplicit false
set_option maxHeartbeats 4000000
namespace Rd
open PySem PySem.Spec PyProof.Rows L2
theorem pe_nev {X : Cx} {e : Expr} : PE X e (fun _ _ _ => False) := ⟨fun _ _ _ _ _ _ h => h.elim⟩
section
variable {σ : L2.St} {H : Hp}
theorem w_while {tc : TT} {tb : TS} {D : Ends} (W : Nat → L2.St → Hp → Prop) {m : Nat} (h0 : W m σ H)
    (h : ∀ m σ H, W m σ H → tc σ H fun b H1 => if b = true then ∃ N : L2.St → Hp → Prop, (∀ σ' H', N σ' H' → ∃ m', m' < m ∧ W m' σ' H') ∧ tb { D with nx := N, ct := N, bk := D.nx } σ H1 else D.nx σ H1) : tWhile tc tb D σ H := ⟨W, ⟨m, h0⟩, h⟩
theorem w_turn {W : Nat → L2.St → Hp → Prop} {m : Nat} {tb : TS} {D : Ends} (h : tb { D with nx := fun σ' H' => ∃ m', m' < m ∧ W m' σ' H', ct := fun σ' H' => ∃ m', m' < m ∧ W m' σ' H', bk := D.nx } σ H) : ∃ N : L2.St → Hp → Prop, (∀ σ' H', N σ' H' → ∃ m', m' < m ∧ W m' σ' H') ∧ tb { D with nx := N, ct := N, bk := D.nx } σ H := ⟨_, fun _ _ z => z, h⟩
end
/-- a if c else b, as a test -/
def tIfT (tc t u : TT) : TT := fun σ H Q => tc σ H fun c H1 => if c = true then t σ H1 Q else u σ H1 Q
theorem pt_ifExp {X : Cx} {c a b : Expr} {pos : Pos} {tc t u : TT} (hc : PT X c tc) (ha : PT X a t) (hb : PT X b u) : PT X (.IfExp c a b pos) (tIfT tc t u) := by
  refine ⟨fun pins s σ H Q I h => ?_⟩
  have e : ∀ wh, isTrue (.IfExp c a b pos) X.env wh = (do if ← isTrue c X.env (eval c X.env) then isTrue a X.env (eval a X.env) else isTrue b X.env (eval b X.env)) := fun wh => by rfl
  rw [e]
  refine wpAny_bind (thn (hc.run pins s σ H _ I h) fun d s1 ⟨H1, I1, q1⟩ => ?_)
  cases d with
  | true => exact ha.run pins s1 σ H1 Q I1 (by rw [if_pos rfl] at q1; exact q1)
  | false => exact hb.run pins s1 σ H1 Q I1 (by rw [if_neg Bool.false_ne_true] at q1; exact q1)
section
variable {σ : L2.St} {H : Hp}
theorem w_ifT {tc t u : TT} {Q : Bool → Hp → Prop} (h : tc σ H fun c H1 => if c = true then t σ H1 Q else u σ H1 Q) : tIfT tc t u σ H Q := h
theorem w_chain {r r' : R2} {ta tb tc : TE} {Q : VK} (h : ta σ H fun x H1 => tb σ H1 fun y H2 => r x y H2 fun z H3 => ∃ k, z = .bl k ∧ if k = true then tc σ H3 fun y' H4 => r' y y' H4 Q else Q (.bl false) H3) : tChain r r' ta tb tc σ H Q := h
/-- data, compared -/
theorem w_eqD {K : PySem.W.Frag} {x y : V} {d e : PyData} {Q : VK} (h1 : Dp K H x d) (h2 : Dp K H y e) (s1 : SeqAt.shaped d = true) (s2 : SeqAt.shaped e = true) (q : Q (.bl (PyData.eqv d e)) H) : rEqD K x y H Q := ⟨d, e, h1, h2, s1, s2, q⟩
end
end Rd

set_option Elab.async false
set_option linter.all false
set_option maxRecDepth 100000
set_option autoImplicit false
set_option maxHeartbeats 4000000
namespace Rd
open PySem PySem.Spec PyProof.Rows L2
/-- list + list, each as it stands, ours or the document's -/
def rCatS (K : PySem.W.Frag) : R2 := fun x y H Q => ∃ l b xs zs, x = .ref l ∧ y = .ref b ∧ SqL K H l xs ∧ SqL K H b zs ∧ xs.length + zs.length ≤ sizeLine ∧ ∀ p, H p = none → Q (.ref p) (upd H p (.lst (xs ++ zs)))
theorem op_catS {X : Cx} : OpR X (binaryOp .Add) (rCatS X.K) := by
  intro pins s σ H x y v u Q I rx ry h
  obtain ⟨l, b, xs, zs, rfl, rfl, hH, hB, hz, q⟩ := h
  cases rx
  cases ry
  obtain ⟨its, r, e, z⟩ := I.list hH
  obtain ⟨its2, r2, e2, z2⟩ := I.list hB
  have l1 := r.length
  have l2 := r2.length
  obtain ⟨⟨cls, dd, data, sl⟩, n, ho, hc, hd, hda⟩ := e
  obtain ⟨⟨cls2, dd2, data2, sl2⟩, n2, ho2, hc2, hd2, hda2⟩ := e2
  simp only at hc hd hda hc2 hd2 hda2
  subst hc hd hda hc2 hd2 hda2
  have ea : its.toArray ++ its2.toArray = (its ++ its2).toArray := by simp
  refine concat_meets ⟨_, ho, rfl⟩ ⟨_, ho2, rfl⟩ noFill_list_add seq_list_add PySem.F.slot_list_add PySem.F.entry_list_add (PySem.F.args_list_add_2 _ _) (list_addW l b its.toArray its2.toArray n n2 none none sl sl2 (by rw [List.size_toArray, List.size_toArray]; omega)) ⟨ho, ho2, ?_⟩
  rw [ea]
  exact ⟨.ref _, _, I.lnew (t' := s.toks) (r.append r2) (by rw [List.length_append]; omega), rfl, q _ I.fresh⟩
section
variable {σ : L2.St} {H : Hp} {Q : VK} {K : PySem.W.Frag}
theorem w_catS {l b : Addr} {xs zs : List V} (h : SqL K H l xs) (h' : H b = some (.lst zs)) (hz : xs.length + zs.length ≤ sizeLine) (q : ∀ p H', Same H H' → H p = none → H' p = some (.lst (xs ++ zs)) → Q (.ref p) H') : rCatS K (.ref l) (.ref b) H Q :=
  ⟨l, b, xs, zs, rfl, rfl, h, SqL.of h', hz, fun p hp => q p _ (same_upd hp) hp upd_same⟩
theorem w_sl {r : V → Option Int → Option Int → Hp → VK → Prop} {te : TE} {tl th : TO} (h : te σ H fun x H1 => tl σ H1 fun l H2 => th σ H2 fun u H3 => r x l u H3 Q) : tSl r te tl th σ H Q := h
theorem w_slL {a : Addr} {xs : List V} {lo hi : Option Int} (h : H a = some (.lst xs)) (q : ∀ p H', Same H H' → H p = none → H' p = some (.lst (cutV xs lo hi)) → Q (.ref p) H') : rSlL K (.ref a) lo hi H Q :=
  ⟨a, xs, rfl, SqL.of h, fun p hp => q p _ (same_upd hp) hp upd_same⟩
theorem w_noPart {Q : Option Int → Hp → Prop} (q : Q none H) : tNoPart σ H Q := q
theorem w_part {te : TE} {Q : Option Int → Hp → Prop} (h : te σ H fun x H' => ∃ i, x = .int i ∧ Q (some i) H') : tPart te σ H Q := h
theorem w_partI {R : Int → Prop} {i : Int} (h : R i) : ∃ j, V.int i = .int j ∧ R j := ⟨i, rfl, h⟩
theorem _root_.L2.SqL.same {a : Addr} {xs : List V} {H' : Hp} (h : SqL K H a xs) (s : Same H H') : SqL K H' a xs := by
  rcases h with h | h
  · rcases h with h | ⟨o, h⟩
    · exact .inl (.inl (s _ _ h))
    · exact .inl (.inr ⟨o, s _ _ h⟩)
  · exact .inr h
theorem cut_mem {xs : List V} {lo hi : Option Int} {x : V} (h : x ∈ cutV xs lo hi) : x ∈ xs := List.mem_of_mem_drop (List.mem_of_mem_take h)
end
theorem w_par3 {i j l : Nat} {ta : TA} {D : Ends} {σ : L2.St} {H : Hp} (h : ta σ H fun vs H1 => ∃ v1 v2 v3, vs = [v1, v2, v3] ∧ D.nx (((σ.set i (some v1)).set j (some v2)).set l (some v3)) H1) : tPar3 i j l ta D σ H := h
end Rd
namespace Nu
open PySem L2
theorem p70 : (2 ^ 70 : Nat) = 1180591620717411303424 := by decide
theorem ixN_nat {n : Nat} {r : Int} (h0 : 0 ≤ r) (h1 : r < n) : ixN n r = some r.toNat := by
  unfold ixN
  rw [if_pos h0, if_pos h1]
end Nu

set_option Elab.async false
set_option linter.all false
set_option maxRecDepth 100000
set_option autoImplicit false
set_option maxHeartbeats 4000000
/-! == and != by a text's own __eq__ -/
namespace Rd
open PySem PySem.Spec PyProof.Rows PySem.SeqAt L2
section
variable {prog : Program} {w : World} {A : Around} {E : Value → Shared → Prop} {s : Shared} {K : PySem.W.Frag} {x y C f : Addr} {ox oy : Obj} {od od' : Option Obj}
theorem ifBound_objNe {M : Model} {args : List Value} {Q : Option Value → Shared → Prop} (X : K.In s.heap) (I : PySem.W.InstAt s.heap x ox C od) (hs : PySem.W.findIn K (.ref C) "__ne__" = some (some (.builtin "object.__ne__")))
    (h : wpAny M A (call (.builtin "object.__ne__") (.ref x :: args)) (fun v => Q (some v)) E s) : wpAny M A (callSpecialIfBound? (.ref x) "__ne__" args) Q E s := by
  simp only [callSpecialIfBound?, bindSpecialIfBound?]
  refine wpAny_holding (wpAny_bind (wpAny_bind (wpAny_bind (I.type.here ((PySem.W.looks_findIn X hs).here ?_)))))
  refine wpAny_bind (wpAny_askSetting (wpAny_ite ?_))
  have fin : wpAny M A (call (.builtin "object.__ne__") ([.ref x] ++ args) >>= fun v => pure (some v)) Q E s := wpAny_bind (wpAny_mono h (fun v s' h' => wpAny_pure h') fun _ _ h' => h')
  split
  · exact wpAny_bind (wpAny_of_eq (F.cmp_object.ne.bind _) (wpAny_pure (by exact fin)))
  · exact wpAny_tryCatch (wpAny_bind (wpAny_of_eq (F.cmp_object.ne.bind _) (wpAny_pure (by exact fin))))
theorem objNe_own (X : K.In s.heap) (I : PySem.W.InstAt s.heap x ox C od) (hs : PySem.W.findIn K (.ref C) "__eq__" = some (some (.ref f))) (hf : PySem.W.isFn K (.ref f) = true) (hu : A.units < cLine) {Q : Fin → Shared → Prop}
    (hcall : wpAny (model prog w) A (call (.ref f) [.ref x, .ref y]) (fun v s' => ∃ b, v = .bool b ∧ Q (.done (.ret (.bool (!b)))) s') E s) :
    wpAny (model prog w) A (Builtin.«object.__ne__» ⟨[.ref x, .ref y], []⟩) Q E s := by
  obtain ⟨h, g, d, t, os⟩ := s
  unfold Builtin.«object.__ne__»
  repeat (first
    | with_reducible refine wpAny_cRoomFor hu ?_
    | (refine wpAny_bind (m := callSpecialIfBound? (.ref x) (Str.ofString "__eq__") [.ref y])
        (PySem.W.ifBound_K X I hs hf (wpAny_mono hcall (fun r s' hr => by
          obtain ⟨b, rfl, hq⟩ := hr
          repeat (first | exact hq | exact wpAny_pure hq | exact wpAny_truthy_bool hq | (refine wpAny_bind (m := truthy (.bool _)) (wpAny_truthy_bool ?_)) | wp_step)) fun _ _ e => e)))
    | wp_step)
theorem rcNe_own {Q : Value → Shared → Prop} (hu : A.units + 1 < cLine) (X : K.In s.heap) (I : PySem.W.InstAt s.heap x ox C od) (I' : PySem.W.InstAt s.heap y oy C od') (hm : PySem.W.mroIn K C (.type "object") = some true)
    (hn : PySem.W.findIn K (.ref C) "__ne__" = some (some (.builtin "object.__ne__"))) (hs : PySem.W.findIn K (.ref C) "__eq__" = some (some (.ref f))) (hf : PySem.W.isFn K (.ref f) = true)
    (hcall : wpAny (model prog w) A.in1 (call (.ref f) [.ref x, .ref y]) (fun v s' => ∃ b, v = .bool b ∧ Q (.bool (!b)) s') E s) :
    wpAny (model prog w) A (richCompare .NotEq (.ref x) (.ref y)) Q E s := by
  have one : wpAny (model prog w) A (tryCompare (.ref x) "__ne__" (.ref y)) (fun r s' => ∃ b, r = some (.bool b) ∧ Q (.bool b) s') E s := by
    unfold tryCompare
    refine wpAny_bind (ifBound_objNe X I hn (wpAny_call (codeAny_call_builtin F.cmp_object.ne.plain F.cmpEntry_ne (PySem.W.check_slot F.cmpKind_ne F.cmpSplit_ne (I.type.andThen (PySem.W.looks_mroIn X hm)) (F.cmpArgs_ne _ _)
      (objNe_own X I hs hf hu (wpAny_mono hcall (fun v s' hv => ?_) fun _ _ e => e))))))
    obtain ⟨b, rfl, hq⟩ := hv
    exact ⟨b, rfl, wpAny_pure ⟨_, rfl, hq⟩⟩
  simp only [richCompare, cmpInfo_NotEq, oneThing_ref]
  refine wpAny_holding (wpAny_bind (wpAny_cRoomFor (Nat.lt_of_succ_lt hu) ?_))
  refine wpAny_bind (I.type.here ?_)
  refine wpAny_bind (I'.type.here ?_)
  rw [if_neg (by simp)]
  refine wpAny_bind (wpAny_pure ?_)
  simp only [Bool.false_eq_true, if_false, Bool.not_false, if_true]
  refine wpAny_bind (m := tryCompare (.ref x) _ (.ref y)) (wpAny_mono one (fun r s1 z => ?_) fun _ _ e => e)
  obtain ⟨b, rfl, hq⟩ := z
  exact wpAny_pure hq
end
/-- what a class must have for == and != by its own __eq__ -/
structure EqC (K : PySem.W.Frag) (C : Addr) : Prop where
  hm : PySem.W.mroIn K C (.type "object") = some true
  hn : PySem.W.findIn K (.ref C) "__ne__" = some (some (.builtin "object.__ne__"))
def rOwn (C : Addr) (g : Bool → Bool) (sp : Sp) : R2 := fun x y H Q => ∃ a b dx dy fs gs, x = .ref a ∧ y = .ref b ∧ H a = some (.ins C dx fs) ∧ H b = some (.ins C dy gs) ∧ sp [.ref a, .ref b] H (fun v H' => ∃ k, v = .bl k ∧ Q (.bl (g k)) H') E0
section
variable {X : Cx} {k j : Nat} {C : Addr} {ps : List Str} {sp : Sp}
theorem op_eqOwn (h : KnM X.prog X.w X.K X.mg X.base CX0 k C "__eq__" ps sp) (hr : Room j X.A) (hj : k ≤ j := by decide) : OpR X (compareOp .Eq) (rOwn C id sp) := by
  obtain ⟨f, fd, M, b, F⟩ := h.ex
  intro pins s σ H x y v u Q I rx ry q
  obtain ⟨a, c, dx, dy, fs, gs, rfl, rfl, ha, hc, q⟩ := q
  cases rx
  cases ry
  obtain ⟨mA, J, _⟩ := ins_get I.hok ha
  obtain ⟨mB, J', _⟩ := ins_get I.hok hc
  obtain ⟨od, J, _⟩ := J.look
  obtain ⟨od', J', _⟩ := J'.look
  obtain ⟨m, hF⟩ := I.fr
  show wpAny (model X.prog X.w) X.A (richCompare .Eq (.ref a) (.ref c)) (EP X pins σ Q) X.xe s
  refine PySem.W.cmp_K (op := .Eq) (tb := .ref C) (hr.mono hj).units0 hF I.ok.mod.kin J J'.type (by simp [PySem.W.notFirst]) M.at_ M.fn ?_
  refine wpAny_mono (run_fn (us := [.ref a, .ref c]) (vs := [.ref a, .ref c]) F (hr.mono hj) b .nil pass0 I (.cons rfl (.cons rfl .nil)) q) (fun r s' z => ?_) fun _ _ e => e
  obtain ⟨z, H', I', rz, k', ez, hq⟩ := z
  subst ez
  cases rz
  exact ⟨.bl k', H', I', rfl, hq⟩
theorem op_neOwn (h : KnM X.prog X.w X.K X.mg X.base CX0 k C "__eq__" ps sp) (O : EqC X.K C) (hr : Room j X.A) (hj : k + 1 ≤ j := by decide) : OpR X (compareOp .NotEq) (rOwn C not sp) := by
  obtain ⟨f, fd, M, b, F⟩ := h.ex
  intro pins s σ H x y v u Q I rx ry q
  obtain ⟨a, c, dx, dy, fs, gs, rfl, rfl, ha, hc, q⟩ := q
  cases rx
  cases ry
  obtain ⟨mA, J, _⟩ := ins_get I.hok ha
  obtain ⟨mB, J', _⟩ := ins_get I.hok hc
  obtain ⟨od, J, _⟩ := J.look
  obtain ⟨od', J', _⟩ := J'.look
  have hr' : Room (k + 1) X.A := hr.mono hj
  show wpAny (model X.prog X.w) X.A (richCompare .NotEq (.ref a) (.ref c)) (EP X pins σ Q) X.xe s
  refine rcNe_own (by have := hr'.un; omega) I.kIn J J' O.hm O.hn M.at_ M.fn ?_
  have e0 : Env0 X.prog X.w X.K X.mg X.base X.A.in1 X.stack s H := by
    have e := I.env0
    exact ⟨e.frames, e.mod, e.bs, e.bsz, e.funs, e.frf, e.hok, e.bare⟩
  have hl := F.len _ _ _ _ q
  have r2 : Vals [V.ref a, V.ref c] [Value.ref a, Value.ref c] := .cons rfl (.cons rfl .nil)
  refine wpAny_call (codeAny_mono (F.run X.A.in1 X.stack s H ⟨[.ref a, .ref c], []⟩ [.ref a, .ref c] [.ref a, .ref c] _ E0 hr'.in1 e0 (by
    have := b s [.ref a, .ref c] I.kIn (by simpa using hl)
    simpa using this) r2 q) fun r s' hq => ?_)
  cases r with
  | error e => exact pass0 pins σ H s e s' I hq
  | ok fl =>
    cases fl with
    | ret w =>
      obtain ⟨z, H', I', rz, k', ez, hq2⟩ := I.after hq
      subst ez
      cases rz
      exact ⟨k', rfl, .bl (!k'), H', I', rfl, hq2⟩
    | next => exact False.elim hq
    | brk => exact False.elim hq
    | cont => exact False.elim hq
end
section
variable {C a b dx dy : Addr} {fs gs : List (Str × V)} {g : Bool → Bool} {sp : Sp} {H : Hp} {Q : VK}
theorem w_own (ha : H a = some (.ins C dx fs)) (hb : H b = some (.ins C dy gs)) (q : sp [.ref a, .ref b] H (fun v H' => ∃ k, v = .bl k ∧ Q (.bl (g k)) H') E0) : rOwn C g sp (.ref a) (.ref b) H Q :=
  ⟨a, b, dx, dy, fs, gs, rfl, rfl, ha, hb, q⟩
end
end Rd

set_option Elab.async false
set_option linter.all false
set_option maxRecDepth 100000
set_option autoImplicit false
set_option maxHeartbeats 4000000
/-! Own classes of exceptions over ArithmeticError, whose __init__ calls the base's and stores. -/
namespace Rd
open PySem PySem.Spec PyProof.Rows L2
abbrev aeMro : List Value := [.type "ArithmeticError", .type "Exception", .type "BaseException", .type "object"]
/-- what the text's class at C must have -/
structure AexC (K : PySem.W.Frag) (C : Addr) : Prop where
  made : PySem.W.excInitIn K C aeMro "ArithmeticError.__new__" = true
  over : PySem.W.excOver K C aeMro = true
  hdC : PySem.W.hasDictIn K C = true
  sa : PySem.W.findIn K (.ref C) "__setattr__" = some (some (.builtin "object.__setattr__"))
  exC : PySem.W.subIn K (.ref C) (.type "BaseException") = some true
  tyC : PySem.W.typeIn K (.ref C) = some (.type "type")
  kC : PySem.W.keepIn K (.ref C) = true
theorem aex_taker {K : PySem.W.Frag} {C : Addr} {f : Str} (n : PySem.W.findIn K (.ref C) f = some none) : PySem.W.takerIn K C f = some none := NoAttr.taker n
section
variable {X : Cx} {pins : List (Addr × Obj)} {σ : L2.St} {H : Hp} {s : Shared} {a C dx : Addr} {f : Str} {y : V} {u : Value} {fs : List (Str × V)} {Q : Unit → Shared → Prop} {E : Value → Shared → Prop} {A : Around}
theorem ast_new (T : AexC X.K C) (I : Inv X pins σ H s) (e : H a = some (exo a C none)) (hno : PySem.W.findIn X.K (.ref C) f = some none) (ry : RelV y u)
    (h : ∀ dx s', H dx = none → dx ≠ a → Inv X pins σ (upd (upd H a (exo a C (some dx))) dx (exd dx [(f, y)])) s' → Q () s') : wpAny (model X.prog X.w) A (setAttr (.ref a) f u) Q E s := by
  obtain ⟨t1, ho⟩ := exo_at I.hok e
  obtain ⟨cd, hc, hd'⟩ := PySem.W.any_some T.hdC
  obtain ⟨hp, g, d, t, os⟩ := s
  have an : a ≠ hp.objs.size := Nat.ne_of_lt (Heap.lt_size ho)
  refine PySem.W.set_plain I.kIn (ox := PySem.W.excObj C t1 none .none) (od := none) ⟨ho, rfl, rfl, trivial⟩ T.sa (PySem.W.osa_openX (od := none) PySem.F.store_ArithmeticError I.kIn ⟨ho, rfl, rfl, trivial⟩ T.over (aex_taker hno) fun b => ?_)
  refine wpAny_bind (wpAny_pure (wpAny_bind (PySem.W.instanceDict_exc (c2 := Value.none) ho (PySem.W.looks_clsIn I.kIn hc) hd' ?_)))
  refine PySem.HandSPX.store_in_new (dx := hp.objs.size) ?_ fun h' tk' hn hs => ?_
  · exact ⟨_, #[], _, (Heap.get?_update_ne _ _ _ _ an.symm).trans (Heap.get?_push_at rfl rfl), rfl, fun e he => absurd he (by simp), fun _ => rfl⟩
  · have hnd : H hp.objs.size = none := I.hok.fresh (Nat.le_refl _)
    have h1a : (hp.update a fun o => { o with dict := some hp.objs.size }).get? a = some (PySem.W.excObj C t1 (some hp.objs.size) .none) := Heap.get?_update_self _ ho rfl
    have J1 := I.write (t' := tk') (x := a) (e := a) (o := exo a C (some hp.objs.size)) (h' := hp.update a fun o => { o with dict := some hp.objs.size }) (by rw [e]; exact True.intro) (.inl rfl) (fun b o hb q => (Heap.get?_update_ne _ _ _ _ hb).trans q) ⟨_, h1a⟩ (exo_ok h1a)
    refine h hp.objs.size _ hnd an.symm (J1.laid (t' := tk') (a := hp.objs.size) (o := exd hp.objs.size [(f, y)]) (h' := h') (fun b o q => ?_) (by simp) (exd_ok hn (relO_put (fs := []) ry fun g => True.intro)))
    by_cases hb : b = a
    · subst hb
      refine (hs.2 _ an).trans ((Heap.get?_update_self _ (Heap.get?_push_of_some _ ho) rfl).trans ?_)
      exact h1a.symm.trans q
    · have q0 : hp.get? b = some o := (Heap.get?_update_ne _ _ _ _ hb).symm.trans q
      exact (hs.2 b (Nat.ne_of_lt (Heap.lt_size q0))).trans ((Heap.get?_update_ne _ _ _ _ hb).trans (Heap.get?_push_of_some _ q0))
theorem ast_old (T : AexC X.K C) (I : Inv X pins σ H s) (e : H a = some (exo a C (some dx))) (ed : H dx = some (exd dx fs)) (hl : fs.length ≤ 900) (hno : PySem.W.findIn X.K (.ref C) f = some none) (ry : RelV y u)
    (h : ∀ s', Inv X pins σ (upd H dx (exd dx ((f, y) :: fs))) s' → Q () s') : wpAny (model X.prog X.w) A (setAttr (.ref a) f u) Q E s := by
  obtain ⟨t1, ho⟩ := exo_at I.hok e
  obtain ⟨mA, hns, rel⟩ := exd_at I.hok ed
  have hw := within_of rel
  obtain ⟨cd, hc, hd'⟩ := PySem.W.any_some T.hdC
  obtain ⟨hp, g, d, t, os⟩ := s
  obtain ⟨oD, _, _, hoD, _, _⟩ := hns.count hw
  refine PySem.W.set_plain I.kIn (ox := PySem.W.excObj C t1 (some dx) .none) (od := some oD) ⟨ho, rfl, rfl, hoD⟩ T.sa (PySem.W.osa_openX (od := some oD) PySem.F.store_ArithmeticError I.kIn ⟨ho, rfl, rfl, hoD⟩ T.over (aex_taker hno) fun b => ?_)
  refine wpAny_bind (wpAny_pure (wpAny_bind (wpAny_bind (wpAny_loadPart ho (wpAny_bind ((PySem.W.looks_clsIn I.kIn hc).at ?_))))))
  rw [hd']
  refine wpAny_pure (a := some dx) (PySem.OEX.store_in_old hns hw (by rw [List.length_map]; omega) fun h' tk' hn hs => ?_)
  have hd : ∃ o, h'.get? dx = some o := by
    obtain ⟨o, _, _, e', _⟩ := hn
    exact ⟨o, e'⟩
  exact h _ (I.write (t' := tk') (x := dx) (e := dx) (o := exd dx ((f, y) :: fs)) (by rw [ed]; exact True.intro) (.inl rfl) (fun b o hb q => (hs.2 b hb).trans q) hd (exd_ok hn (relO_put ry rel)))
/-- the base's __init__: nothing of it is told -/
theorem ainit_ok {us : List Value} {Q : Value → Shared → Prop} (T : AexC X.K C) (I : Inv X pins σ H s) (e : H a = some (exo a C none)) (hl : us.length ≤ sizeLine) (h : ∀ s', Inv X pins σ H s' → Q .none s') :
    wpAny (model X.prog X.w) A (call (.builtin "ArithmeticError.__init__") (.ref a :: us)) Q E s := by
  obtain ⟨nm, N, q, bs, bm, hdct, sn, sub, ab, col, dd, k0, k1, k2, k3, k5, hC, hT⟩ := PySem.W.excInit_of I.kIn T.made
  obtain ⟨t1, ho⟩ := exo_at I.hok e
  obtain ⟨hp, g, d, t, os⟩ := s
  refine wpAny_call (PySem.HandSPX.init_base F.excBase_ArithmeticError hT hC ho hl fun h' t2 k hx => ?_)
  have J := I.write (t' := t) (x := a) (e := a) (o := exo a C none) (by rw [e]; exact True.intro) (.inl rfl) k ⟨_, hx⟩ (exo_ok hx)
  rw [show upd H a (exo a C none) = H from funext fun b => by by_cases hb : b = a <;> simp [upd, hb, e]] at J
  exact h _ J
end
end Rd
namespace Rd
open PySem PySem.Spec PyProof.Rows L2
theorem typ_AE : typeOf (.type "ArithmeticError") = pure (.type "type") := by kernel_rfl
/-- ArithmeticError.__init__(self, ..) -/
def tAI (K : PySem.W.Frag) (ta : TA) : TE := fun σ H Q => ta σ H fun vs H1 => ∃ (a C : Addr) (ws : List V), vs = .ref a :: ws ∧ ws.length ≤ 1000 ∧ AexC K C ∧ H1 a = some (exo a C none) ∧ Q .non H1
/-- self.f = e, self an exception that is being made -/
def tAst (K : PySem.W.Frag) (f : Str) (to te : TE) : TS := fun D σ H => te σ H fun y H1 => to σ H1 fun x H2 => ∃ a C : Addr, x = .ref a ∧ AexC K C ∧ PySem.W.findIn K (.ref C) f = some none ∧
  ((H2 a = some (exo a C none) ∧ ∀ dx, H2 dx = none → dx ≠ a → D.nx σ (upd (upd H2 a (exo a C (some dx))) dx (exd dx [(f, y)]))) ∨
    ∃ (dx : Addr) (fs : List (Str × V)), H2 a = some (exo a C (some dx)) ∧ H2 dx = some (exd dx fs) ∧ fs.length ≤ 900 ∧ D.nx σ (upd H2 dx (exd dx ((f, y) :: fs))))
section
variable {X : Cx} {o e : Expr} {es : List Expr} {to te : TE} {ta : TA} {f : Str} {p p' p1 p2 pos : Pos}
theorem pe_ainit {pl : Sem Bool} (hg : Gl X "ArithmeticError") (hm : X.mg "ArithmeticError" = none) (vV : PySem.W.findCls X.K (.type "ArithmeticError") (.type "type") "__init__" = some (.val (.builtin "ArithmeticError.__init__"))) (ha : PA X (e :: es) ta)
    (hc : eval (.Call (.Attribute (.Name "ArithmeticError" p1) "__init__" p2) (e :: es) [] pos) X.env = (do
      let ov ← eval (.Name "ArithmeticError" p1) X.env
      standAt p2.atName
      let (f, first) ← holding [ov] (getMethod ov "__init__" pl)
      callWith pos f first (backTo pos (starEach (e :: es) X.env)) (backToKw pos (keywordEach [] X.env))) := by rfl)
    (he : starEach (e :: es) X.env = (false, eval e X.env) :: starEach es X.env := by rfl) (hpl : (backTo pos (starEach es X.env)).any (·.1) = false := by rfl) :
    PE X (.Call (.Attribute (.Name "ArithmeticError" p1) "__init__" p2) (e :: es) [] pos) (tAI X.K ta) := by
  refine ⟨fun pins s σ H Q I h => PySem.W.methodCall_KW (ld_blt I hg hm PyProof.Rows.Boot.«ArithmeticError» ?_ (by decide) (by decide)) hc⟩
  obtain ⟨m, fr⟩ := I.fr
  refine PySem.W.method_type fr I.ok.mod.kin typ_AE (by decide +kernel) vV (by decide +kernel) ?_
  refine PyProof.Rows.callWith_method1 (thn (ha.run pos pins _ σ H _ (I.tok _) h) fun us s1 ⟨vs, H1, I1, r1, a, C, ws, ev, hl, T, ea, q⟩ => ?_) he hpl
  subst ev
  cases r1 with
  | @cons _ u0 _ ur ra rw' =>
    obtain rfl : u0 = Value.ref a := ra
    exact ainit_ok T I1 ea (by rw [← Paired.length rw', sizeLine_eq]; omega) fun s' J => ⟨.non, H1, J, rfl, q⟩
theorem ps_ast (ho : PE X o to) (he : PE X e te) (hs : swapsWith e (some (.Attribute o f p')) pos.line X.env = pure false := by rfl) : PS X (.Assign [.Attribute o f p'] e pos) (tAst X.K f to te) := by
  refine ⟨fun pins s σ H D I h => plainObj_wpAny_Assign_Attribute (thn (he.run pins s σ H _ I h) fun v s1 ⟨y, H1, I1, r1, q1⟩ => thn (ho.run pins s1 σ H1 _ I1 q1) fun u s2 ⟨x, H2, I2, r2, a, C, ex, T, hno, q⟩ => ?_) hs⟩
  subst ex
  obtain rfl : u = Value.ref a := r2
  rcases q with ⟨ea, q⟩ | ⟨dx, fs, ea, ed, hl, q⟩
  · exact ast_new T I2 ea hno r1 fun dx s' n ne J => ⟨σ, _, J, q dx n ne⟩
  · exact ast_old T I2 ea ed hl hno r1 fun s' J => ⟨σ, _, J, q⟩
/-- C(e, ..), C over ArithmeticError with its own __init__ -/
theorem pmk_aex {CX : CXT} {x : Str} {C fI : Addr} {k : Nat} {fd : FuncData} {ps : List Str} {sp : Sp} {ds : List Value} {dvs : List V} (T : AexC X.K C) (iC : PySem.W.findIn X.K (.ref C) "__init__" = some (some (.ref fI))) (tI : PySem.W.typeIn X.K (.ref fI) = some (.type "function"))
    (F1 : FnOk X.prog X.w X.K X.mg X.base CX k fI fd ps sp) (hr : Room (k + 1) X.A) (hb : Binds X.K fd ps ds) (hd : Vals dvs ds) (hx : Passes CX X (fun _ _ _ => False)) (hg : Gl X x) (hm : X.mg x = some (.ref C)) (ha : PA X (e :: es) ta)
    (hdb : (x == ("__debug__" : Str)) = false := by decide) (he : starEach (e :: es) X.env = (false, eval e X.env) :: starEach es X.env := by rfl) (hpl : (backTo pos (starEach es X.env)).any (·.1) = false := by rfl) :
    PMk X (.Call (.Name x p) (e :: es) [] pos) (tMkO C sp dvs ta) := by
  intro pins s σ H Q I h
  refine wpAny_Call_Name_kw (ld_glob I hg hm (PySem.W.callWith_K (h₀ := X.base) I.ok.mod.kin T.kC (thn (ha.run pos pins s σ H _ I h) fun us s1 ⟨vs, H1, I1, r1, hz, q1⟩ => ⟨I1.kIn, ?_⟩) he hpl) hdb)
  obtain ⟨nm, N, q, bs, bm, hdct, sn, sub, ab, col, dd, k0, k1, k2, k3, k5, hC, hT⟩ := PySem.W.excInit_of I1.kIn T.made
  show wpAny _ _ (call (.ref C) us) _ _ _
  obtain ⟨hp, g, dr, tk, os⟩ := s1
  have hsz : hp.objs.size ≤ hp.objs.size + 1 := Nat.le_succ _
  have hq := q1 (hp.objs.size + 1) (I1.hok.fresh hsz)
  have kk : ∀ b o, hp.get? b = some o → ((hp.push (PySem.W.kdv_tup us)).push (PySem.HandSPX.excO C hp.objs.size)).get? b = some o := fun b o z => Heap.get?_push_of_some _ (Heap.get?_push_of_some _ z)
  have I2 := I1.laid (t' := tk) (a := hp.objs.size + 1) (o := exo (hp.objs.size + 1) C none) (h' := (hp.push (PySem.W.kdv_tup us)).push (PySem.HandSPX.excO C hp.objs.size)) kk hsz (exo_ok (by heap_get))
  have r2 : Vals (V.ref (hp.objs.size + 1) :: (vs ++ dvs)) (Value.ref (hp.objs.size + 1) :: (us ++ ds)) := .cons rfl (r1.append hd)
  have hl : (Value.ref (hp.objs.size + 1) :: us ++ ds).length = ps.length := (r2.length.symm.trans (F1.len _ _ _ _ hq))
  refine wpAny_call (PySem.HandSPX.call_own F.excBase_ArithmeticError hT hC (PySem.W.looks_findIn I1.kIn iC) (fun self => PySem.W.bind_fn I1.kIn self tI) (by rw [← Paired.length r1, sizeLine_eq]; omega)
    (codeAny_mono (F1.run _ X.stack _ _ ⟨Value.ref (hp.objs.size + 1) :: us, []⟩ (Value.ref (hp.objs.size + 1) :: (us ++ ds)) _ _ (fun _ _ _ => False) (hr.make C us []) (I2.env0.make C us []) (hb _ (Value.ref (hp.objs.size + 1) :: us) I2.kIn hl) r2 hq) fun r s' hq' => ?_))
  match r, hq' with
  | .error er, hq' => exact hx pins σ _ _ er s' I2 hq'
  | .ok (.ret u), hq' =>
    obtain ⟨v, H2, os2, bare2, un2, hok2, rv, ev, d, fs, ea, ed, hd1, q2⟩ := hq'
    subst ev
    obtain ⟨h2, g2, d2, t2, os'⟩ := s'
    exact ⟨rv, mk_end (raises_own T.exC T.tyC) I1 hsz kk un2 hok2 os2 bare2 ea ed hd1 q2⟩
  | .ok .next, hq' => exact False.elim hq'
  | .ok .brk, hq' => exact False.elim hq'
  | .ok .cont, hq' => exact False.elim hq'
end
end Rd

set_option Elab.async false
set_option linter.all false
set_option maxRecDepth 100000
set_option autoImplicit false
set_option maxHeartbeats 4000000
/-! Thrown(value): its own __init__, raised, caught, its field read. -/
namespace Rd
open PySem PySem.Spec PyProof.Rows L2
/-- a statement, an expression that is never reached -/
theorem pe_never {X : Cx} {e : Expr} : PE X e (fun _ _ _ => False) := ⟨fun _ _ _ _ _ _ h => h.elim⟩
def thrFs (v : V) : List (Str × V) := [("level", .int 1), ("value", v)]
def spThr (C : Addr) : Sp := fun vs H Q _ => ∃ x v, vs = [.ref x, v, .int 1] ∧ H x = some (exo x C none) ∧
  ∀ d, H d = none → d ≠ x → Q .non (upd (upd (upd H x (exo x C (some d))) d (exd d [("value", v)])) d (exd d (thrFs v)))
/-- the class Thrown -/
structure KnTh (P : Program) (w : World) (K : PySem.W.Frag) (mg : Str → Option Value) (base : Heap) (C : Addr) : Prop where
  ex : ∃ f fd ds, mg "Thrown" = some (.ref C) ∧ AexC K C ∧ PySem.W.findIn K (.ref C) "__init__" = some (some (.ref f)) ∧ PySem.W.typeIn K (.ref f) = some (.type "function") ∧ Vals [V.int 1] ds ∧
    Binds K fd ["self", "value", "level"] ds ∧ FnOk P w K mg base CX0 1 f fd ["self", "value", "level"] (spThr C)
def tThr (C : Addr) (ta : TA) (W : WX) : TS := fun _ σ H => tMkO C (spThr C) [.int 1] ta σ H fun cls d H' => W cls d σ H'
section
variable {X : Cx} {C : Addr} {j : Nat} {a : Expr} {es : List Expr} {ta : TA} {p pos pos2 : Pos} {W : WX} {x : Str} {ps : List Str} {sp : Sp} {k : Nat}
theorem ps_thr (hc : X.calm = true) (h : KnTh X.prog X.w X.K X.mg X.base C) (hr : Room j X.A) (tk : Takes X W) (ha : PA X [a] ta) (hj : 2 ≤ j := by decide) (hg : Gl X "Thrown" := by rfl)
    (he : starEach (a :: []) X.env = (false, eval a X.env) :: starEach [] X.env := by rfl) (hpl : (backTo pos (starEach [] X.env)).any (·.1) = false := by rfl) :
    PS X (.Raise (some (.Call (.Name "Thrown" p) [a] [] pos)) none pos2) (tThr C ta W) := by
  obtain ⟨f, fd, ds, m, T, iC, tI, hd, hb, F⟩ := h.ex
  exact ps_raise hc tk (pmk_aex T iC tI F (hr.mono hj) hb hd pass0 hg m ha (by decide) he hpl)
/-- f(e, ..), f may raise -/
theorem pkX (h : Kn X.prog X.w X.K X.mg X.base (L2.CX X.prog X.w) k x ps sp) (hr : Room j X.A) (tk : Takes X W) (ha : PA X (a :: es) ta) (hj : k ≤ j := by decide) (hg : Gl X x := by rfl) (hdb : (x == ("__debug__" : Str)) = false := by decide)
    (he : starEach (a :: es) X.env = (false, eval a X.env) :: starEach es X.env := by rfl) (hpl : (backTo pos (starEach es X.env)).any (·.1) = false := by rfl) : PE X (.Call (.Name x p) (a :: es) [] pos) (tCallS sp (WE W) ta) := by
  obtain ⟨f, fd, m, kp, b, F⟩ := h.ex
  exact pe_callS F (hr.mono hj) hg m kp b (fun σ => passAt tk σ) ha hdb he hpl
end
section
variable {σ : L2.St} {H : Hp} {C : Addr} {W : WX} {D : Ends}
def MkOK (C : Addr) (sp : Sp) (dvs vs : List V) (H1 : Hp) (Q : XK) : Prop := vs.length ≤ 1000 ∧ ∀ a, H1 a = none → sp (.ref a :: (vs ++ dvs)) (upd H1 a (exo a C none))
  (fun v H2 => v = .non ∧ ∃ (d : Addr) (fs : List (Str × V)), H2 a = some (exo a C (some d)) ∧ H2 d = some (exd d fs) ∧ H1 d = none ∧ Q (.ref C) (some d) (upd (del H2 a) d (.xd fs))) (fun _ _ _ => False)
theorem w_thr {ta : TA} (h : ta σ H fun vs H1 => MkOK C (spThr C) [.int 1] vs H1 fun cls d H' => W cls d σ H') : tThr C ta W D σ H := h
theorem w_thrI {v : V} {Q : XK} (q : ∀ d H', Same H H' → H d = none → H' d = some (.xd (thrFs v)) → Q (.ref C) (some d) H') : MkOK C (spThr C) [.int 1] [v] H Q := by
  refine ⟨by show 1 ≤ 1000; decide, fun a ha => ⟨a, v, rfl, upd_same, fun d hd hda => ?_⟩⟩
  rw [upd_ne hda] at hd
  refine ⟨rfl, d, thrFs v, ?_, upd_same, hd, q d _ (fun b o e => ?_) hd upd_same⟩
  · rw [upd_ne (Ne.symm hda), upd_ne (Ne.symm hda), upd_same]
  · have ba : b ≠ a := ne_of_none e ha
    have bd : b ≠ d := ne_of_none e hd
    rw [upd_ne bd, del_ne ba, upd_ne bd, upd_ne bd, upd_ne ba, upd_ne ba]
    exact e
theorem w_callS {sp : Sp} {t : TA} {E : L2.St → XK} {Q : VK} (h : t σ H fun vs H1 => sp vs H1 Q (E σ)) : tCallS sp E t σ H Q := h
end
end Rd

set_option Elab.async false
set_option linter.all false
set_option maxRecDepth 100000
set_option autoImplicit false
set_option maxHeartbeats 4000000
/-! A list of anything, beside the empty list. -/
namespace Rd
open PySem PySem.Spec PyProof.Rows L2
def rNeNil (K : PySem.W.Frag) : R2 := fun x y H Q => ∃ l b xs, x = .ref l ∧ y = .ref b ∧ SqL K H l xs ∧ SqL K H b [] ∧ Q (.bl (!xs.isEmpty)) H
theorem op_neNil {X : Cx} (hu : X.A.units + 64 < cLine) : OpR X (compareOp .NotEq) (rNeNil X.K) := by
  intro pins s σ H x y v u Q I rx ry h
  obtain ⟨l, b, xs, rfl, rfl, hl, hb, q⟩ := h
  cases rx
  cases ry
  obtain ⟨its, r, e, z⟩ := I.list hl
  obtain ⟨its2, r2, e2, z2⟩ := I.list hb
  have l1 := r.length
  have l2 := r2.length
  have z0 : its2 = [] := List.length_eq_zero_iff.1 (by rw [← l2]; rfl)
  subst z0
  have go : ∀ k, k = !xs.isEmpty → SeqAt.RcNeAt X.A s (.ref l) (.ref b) k → wpAny (model X.prog X.w) X.A (compareOp .NotEq (.ref l) (.ref b)) (EP X pins σ Q) X.xe s := fun k hk h => by
    refine h _ _ _ _ ?_
    rw [hk]
    exact ⟨.bl _, H, I, rfl, q⟩
  cases xs with
  | nil =>
    have z1 : its = [] := List.length_eq_zero_iff.1 (by rw [← l1]; rfl)
    subst z1
    refine go false rfl ?_
    exact SeqAt.RcNeAt.lists (e := fun _ => true) e.isList e2.isList rfl (by omega) (fun j h1 h2 => absurd h1 (by simp))
  | cons x xs =>
    refine go true rfl ?_
    refine SeqAt.RcNeAt.lists_lengths e.isList e2.isList ?_ (by omega)
    cases its with
    | nil => cases l1
    | cons a as => rfl
/-- e.f, where the reading must not speak of the context -/
theorem pe_fldK {X : Cx} {K : PySem.W.Frag} {e : Expr} {f : Str} {pos : Pos} {ta : TE} (he : PE X e ta) (hb : attributeBase e f X.env (eval e X.env) = eval e X.env) (hk : X.K = K := by rfl) : PE X (.Attribute e f pos) (tFld K ta f) := hk ▸ pe_fld he hb
section
variable {H : Hp} {K : PySem.W.Frag} {l b : Addr} {xs : List V} {Q : VK}
theorem w_neNil (h1 : SqL K H l xs) (h2 : H b = some (.lst [])) (q : Q (.bl (!xs.isEmpty)) H) : rNeNil K (.ref l) (.ref b) H Q := ⟨l, b, xs, rfl, rfl, h1, SqL.of h2, q⟩
end
end Rd

set_option Elab.async false
set_option linter.all false
set_option maxRecDepth 100000
set_option autoImplicit false
set_option maxHeartbeats 4000000
/-! list(zip(a, b)), a and b lists of one length -/
namespace Rd
open PySem PySem.Spec PyProof.Rows PySem.W L2
/-- a zip of two lists that has told i pairs, as it stands; S: the list that is filled -/
structure ZS (z TI TO i1 i2 l1 l2 S : Addr) (xs ys : Array Value) (h : Heap) (i : Nat) : Prop where
  ti : IsPair h TI (.ref i1) (.ref i2)
  a1 : h.IsListIter i1 l1 i
  a2 : h.IsListIter i2 l2 i
  b1 : h.IsList l1 xs
  b2 : h.IsList l2 ys
  st : (IsZip h z TI TO .none ∧ ∃ u v, IsPair h TO u v) ∨ ∃ T f oT, IsZipHeld h z TI TO T f ∧ h.get? T = some oT ∧ T ≠ z ∧ T ≠ i1 ∧ T ≠ i2 ∧ T ≠ S
structure ZN (z TI TO i1 i2 l1 l2 S : Addr) : Prop where
  z : z < S
  TI : TI < S
  TO : TO < S
  i1 : i1 < S
  i2 : i2 < S
  l1 : l1 < S
  l2 : l2 < S
section
variable {prog : Program} {w : World} {A : Around} {E : Value → Shared → Prop} {s : Shared} {z TI TO i1 i2 l1 l2 S : Addr} {xs ys : Array Value}
theorem ZS.typ {i : Nat} (g : ZS z TI TO i1 i2 l1 l2 S xs ys s.heap i) : s.TypeIs (.ref z) "zip" := by
  rcases g.st with ⟨e, _⟩ | ⟨T, f, oT, e, _⟩ <;> exact ⟨_, e, rfl⟩
theorem ZS.keep {h h' : Heap} {i : Nat} (N : ZN z TI TO i1 i2 l1 l2 S) (g : ZS z TI TO i1 i2 l1 l2 S xs ys h i) (k : ∀ b o, b ≠ S → h.get? b = some o → h'.get? b = some o) : ZS z TI TO i1 i2 l1 l2 S xs ys h' i := by
  have ne : ∀ {b : Addr}, b < S → b ≠ S := fun h => Nat.ne_of_lt h
  refine ⟨k _ _ (ne N.TI) g.ti, g.a1.at fun o => k _ o (ne N.i1), g.a2.at fun o => k _ o (ne N.i2), g.b1.at fun o => k _ o (ne N.l1), g.b2.at fun o => k _ o (ne N.l2), ?_⟩
  rcases g.st with ⟨e, u, v, e2⟩ | ⟨T, f, oT, e, e2, n1, n2, n3, n4⟩
  · exact .inl ⟨k _ _ (ne N.z) e, u, v, k _ _ (ne N.TO) e2⟩
  · exact .inr ⟨T, f, oT, k _ _ (ne N.z) e, k _ _ n4 e2, n1, n2, n3, n4⟩
theorem zs_item {i : Nat} {x y : Value} {Q : Option Value → Shared → Prop} (D : ZipApart z TI TO i1 i2 l1 l2) (g : ZS z TI TO i1 i2 l1 l2 S xs ys s.heap i) (ex : xs[i]? = some x) (ey : ys[i]? = some y) (hS : S < s.heap.objs.size)
    (q : ∀ h', ZS z TI TO i1 i2 l1 l2 S xs ys h' (i + 1) → IsPair h' s.heap.objs.size x y → h'.objs.size = s.heap.objs.size + 1 → (∀ c o, c ≠ z → c ≠ TO → c ≠ i1 → c ≠ i2 → s.heap.get? c = some o → h'.get? c = some o) → Q (some (.ref s.heap.objs.size)) { s with heap := h' }) :
    wpAny (model prog w) A (pyNext (.ref z)) Q E s := by
  have gt : ∀ {c : Addr} {o : Obj}, s.heap.get? c = some o → s.heap.objs.size ≠ c := fun e => Nat.ne_of_gt (Heap.lt_size e)
  have m1 : s.heap.objs.size ≠ i1 := let ⟨_, e, _⟩ := g.a1; gt e
  have m2 : s.heap.objs.size ≠ i2 := let ⟨_, e, _⟩ := g.a2; gt e
  rcases g.st with ⟨e, u, v, e2⟩ | ⟨T, f, oT, e, e2, n1, n2, n3, n4⟩
  · exact wpAny_pyNext_zip_item D e g.ti e2 g.a1 g.a2 g.b1 g.b2 ex ey fun h' c1 c2 c3 c4 c5 c6 hk => q h'
      ⟨hk _ _ D.TIz D.TITO D.TIi1 D.TIi2 g.ti, c3, c4, g.b1.at fun o => hk _ o D.l1z D.l1TO D.l1i1 D.l1i2, g.b2.at fun o => hk _ o D.l2z D.l2TO D.l2i1 D.l2i2,
        .inr ⟨_, false, _, c1, c5, gt e, m1, m2, Nat.ne_of_gt hS⟩⟩ c5 c6 hk
  · exact wpAny_pyNext_zip_item_held D e e2 g.ti g.a1 g.a2 g.b1 g.b2 ex ey fun h' c1 c3 c4 c5 c6 hk => q h'
      ⟨hk _ _ D.TIz D.TIi1 D.TIi2 g.ti, c3, c4, g.b1.at fun o => hk _ o D.l1z D.l1i1 D.l1i2, g.b2.at fun o => hk _ o D.l2z D.l2i1 D.l2i2,
        .inr ⟨T, true, oT, c1, hk _ _ n1 n2 n3 e2, n1, n2, n3, n4⟩⟩ c5 c6 fun c o k1 _ k3 k4 => hk c o k1 k3 k4
theorem zs_done {i : Nat} {Q : Option Value → Shared → Prop} (hh : A.handled = none) (D : ZipApart z TI TO i1 i2 l1 l2) (g : ZS z TI TO i1 i2 l1 l2 S xs ys s.heap i) (ex : xs[i]? = none)
    (q : ∀ h', (∀ c o, c ≠ z → c ≠ TO → c ≠ i1 → c ≠ i2 → s.heap.get? c = some o → h'.get? c = some o) → Q none { s with heap := h' }) : wpAny (model prog w) A (pyNext (.ref z)) Q E s := by
  rcases g.st with ⟨e, u, v, e2⟩ | ⟨T, f, oT, e, e2, n1, n2, n3, n4⟩
  · exact wpAny_pyNext_zip_end hh D e g.ti e2 g.a1 g.a2 g.b1 g.b2 (.inl ex) q
  · exact wpAny_pyNext_zip_end_held hh D e e2 g.ti g.a1 g.a2 g.b1 g.b2 (.inl ex) fun h' hk => q h' fun c o k1 _ k3 k4 => hk c o k1 k3 k4
/-- the pairs that were told, in tuples of their own -/
structure ZG (S : Addr) (xs ys : Array Value) (h : Heap) (as : List Addr) : Prop where
  rise : as.Pairwise (· < ·)
  above : ∀ a ∈ as, S < a ∧ a < h.objs.size
  pair : ∀ (j : Nat) (a : Addr), as[j]? = some a → ∃ x y, xs[j]? = some x ∧ ys[j]? = some y ∧ IsPair h a x y
abbrev lstO (acc : Array Value) (c : Nat) : Obj := { cls := .type "list", dict := none, data := .seq acc c, slots := #[] }
theorem zs_loop {R : Result → Shared → Prop} {h0 : Heap} (hh : A.handled = none) (D : ZipApart z TI TO i1 i2 l1 l2) (N : ZN z TI TO i1 i2 l1 l2 S) (hn : xs.size ≤ sizeLine) (hl : ys.size = xs.size) (res : Value)
    (hR : ∀ (h' : Heap) (tk c : Nat) (as : List Addr) (acc : Array Value), ZG S xs ys h' as → as.length = xs.size → h'.get? S = some (lstO acc c) → acc.toList = as.map Value.ref → (∀ b o, b ≠ S → b ≠ z → b ≠ TO → b ≠ i1 → b ≠ i2 → h0.get? b = some o → h'.get? b = some o) → R (.ok (.ret res)) { s with heap := h', toks := tk }) :
    ∀ (k i : Nat) (h : Heap) (tk c : Nat) (acc : Array Value) (as : List Addr), xs.size - i = k → i ≤ xs.size → ZS z TI TO i1 i2 l1 l2 S xs ys h i → ZG S xs ys h as → as.length = i → h.get? S = some (lstO acc c) → acc.toList = as.map Value.ref →
      (∀ b o, b ≠ S → b ≠ z → b ≠ TO → b ≠ i1 → b ≠ i2 → h0.get? b = some o → h.get? b = some o) → codeAny (model prog w) A (.builtin "list.extend.loop" ⟨[.ref S, .ref z, res], []⟩) R { s with heap := h, toks := tk } := by
  intro k
  induction k with
  | zero =>
    intro i h tk c acc as hk hi g G gl eS ea kp
    refine codeAny_builtin PySem.F.entry_extend_loop (by
      rw [Around.under_plainId PySem.F.plain_extend_loop _]
      show wpAny _ A.in1 (pyNext (.ref z) >>= _) _ _ _
      refine wpAny_bind (zs_done (s := { s with heap := h, toks := tk }) (A := A.in1) hh D g (Array.getElem?_eq_none (by omega)) fun h' he => ?_)
      have up : ∀ a, S ≤ a → ∀ o, h.get? a = some o → h'.get? a = some o := fun a ha o e => by
        exact he a o (Nat.ne_of_gt (Nat.lt_of_lt_of_le N.z ha)) (Nat.ne_of_gt (Nat.lt_of_lt_of_le N.TO ha)) (Nat.ne_of_gt (Nat.lt_of_lt_of_le N.i1 ha)) (Nat.ne_of_gt (Nat.lt_of_lt_of_le N.i2 ha)) e
      refine wpAny_pure (hR h' tk c as acc ⟨G.rise, fun a ha => ⟨(G.above a ha).1, ?_⟩, fun j a hj => ?_⟩ (by omega) (up S (Nat.le_refl _) _ eS) ea fun b o b1 b2 b3 b4 b5 e => he b o b2 b3 b4 b5 (kp b o b1 b2 b3 b4 b5 e))
      · obtain ⟨j, hj⟩ := List.mem_iff_getElem?.1 ha
        obtain ⟨x, y, _, _, e⟩ := G.pair j a hj
        exact Heap.lt_size (up a (Nat.le_of_lt (G.above a ha).1) _ e)
      · obtain ⟨x, y, e1, e2, e⟩ := G.pair j a hj
        exact ⟨x, y, e1, e2, up a (Nat.le_of_lt (G.above a (List.mem_of_getElem? hj)).1) _ e⟩)
  | succ k ih =>
    intro i h tk c acc as hk hi g G gl eS ea kp
    have lt : i < xs.size := by omega
    have ex := Array.getElem?_eq_getElem lt
    have ey := Array.getElem?_eq_getElem (show i < ys.size by omega)
    have asz : acc.size = i := by rw [← Array.length_toList, ea, List.length_map, gl]
    have Sh : S < h.objs.size := Heap.lt_size eS
    refine codeAny_builtin PySem.F.entry_extend_loop (by
      rw [Around.under_plainId PySem.F.plain_extend_loop _]
      show wpAny _ A.in1 (pyNext (.ref z) >>= _) _ _ _
      refine wpAny_bind (zs_item (s := { s with heap := h, toks := tk }) D g ex ey Sh fun h' g' hp hz he => ?_)
      have up : ∀ a, S ≤ a → ∀ o, h.get? a = some o → h'.get? a = some o := fun a ha o e => by
        exact he a o (Nat.ne_of_gt (Nat.lt_of_lt_of_le N.z ha)) (Nat.ne_of_gt (Nat.lt_of_lt_of_le N.TO ha)) (Nat.ne_of_gt (Nat.lt_of_lt_of_le N.i1 ha)) (Nat.ne_of_gt (Nat.lt_of_lt_of_le N.i2 ha)) e
      have eS' := up S (Nat.le_refl _) _ eS
      have on : ∀ b o, b ≠ S → h'.get? b = some o → (h'.update S (Obj.mapSeq (·.push (Value.ref h.objs.size)))).get? b = some o := fun b o hb e => (Heap.get?_update_other _ _ (Ne.symm hb)).trans e
      show wpAny _ A.in1 (updateSeq S (·.push (Value.ref h.objs.size)) >>= _) _ _ _
      refine wpAny_bind (wpAny_updateSeq eS' rfl (wpAny_pure ⟨plainId_quiet PySem.F.plain_extend_loop _, ih (i + 1) _ tk _ (acc.push (Value.ref h.objs.size)) (as ++ [h.objs.size]) (by omega) lt (g'.keep N on) ?_ (by rw [List.length_append, gl]; rfl)
        (Heap.get?_update_self _ eS' rfl) (by rw [Array.toList_push, ea, List.map_append]; rfl) fun b o b1 b2 b3 b4 b5 e => on b o b1 (he b o b2 b3 b4 b5 (kp b o b1 b2 b3 b4 b5 e))⟩) (by show acc.size ≤ _; rw [asz]; omega)
        (by show (acc.push (Value.ref h.objs.size)).size ≤ sizeLine + 1; rw [Array.size_push, asz]; omega))
      have szl : (h'.update S (Obj.mapSeq (·.push (Value.ref h.objs.size)))).objs.size = h.objs.size + 1 := by rw [Heap.size_update]; exact hz
      refine ⟨List.pairwise_append.2 ⟨G.rise, List.pairwise_singleton _ _, fun a ha b hb => ?_⟩, fun a ha => ?_, fun j a hj => ?_⟩
      · rw [List.mem_singleton.1 hb]
        exact (G.above a ha).2
      · rw [szl]
        rcases List.mem_append.1 ha with ha | ha
        · exact ⟨(G.above a ha).1, Nat.lt_succ_of_lt (G.above a ha).2⟩
        · rw [List.mem_singleton.1 ha]
          exact ⟨Sh, Nat.lt_succ_self _⟩
      · by_cases hj2 : j < as.length
        · rw [List.getElem?_append_left hj2] at hj
          obtain ⟨x, y, e1, e2, e⟩ := G.pair j a hj
          have ha := (G.above a (List.mem_of_getElem? hj)).1
          exact ⟨x, y, e1, e2, on a _ (Nat.ne_of_gt ha) (up a (Nat.le_of_lt ha) _ e)⟩
        · rw [List.getElem?_append_right (by omega)] at hj
          have j0 : j - as.length = 0 := by
            have := (List.getElem?_eq_some_iff.1 hj).1
            simpa using this
          rw [j0] at hj
          have ja : j = i := by omega
          cases hj
          rw [ja]
          exact ⟨_, _, ex, ey, on _ _ (Nat.ne_of_gt Sh) hp⟩)
theorem zip_len0 : typeLookup (.type "zip") "__len__" = pure none := by rw [typeLookup_type, builtinLookup_eq_fast]; kernel_rfl
theorem zip_hint0 : typeLookup (.type "zip") "__length_hint__" = pure none := by rw [typeLookup_type, builtinLookup_eq_fast]; kernel_rfl
/-- what the list is filled with -/
abbrev ZR (s : Shared) (S : Addr) (xs ys : Array Value) (z TO i1 i2 : Addr) (R : Shared → Prop) : Prop := ∀ (h' : Heap) (tk c : Nat) (as : List Addr) (acc : Array Value), ZG S xs ys h' as → as.length = xs.size → h'.get? S = some (lstO acc c) → acc.toList = as.map Value.ref →
  (∀ b o, b ≠ S → b ≠ z → b ≠ TO → b ≠ i1 → b ≠ i2 → s.heap.get? b = some o → h'.get? b = some o) → R { s with heap := h', toks := tk }
theorem zs_extend {R : Result → Shared → Prop} {c0 : Nat} (hh : A.handled = none) (D : ZipApart z TI TO i1 i2 l1 l2) (N : ZN z TI TO i1 i2 l1 l2 S) (hn : xs.size ≤ sizeLine) (hl : ys.size = xs.size) (g : ZS z TI TO i1 i2 l1 l2 S xs ys s.heap 0) (eS : s.heap.get? S = some (lstO #[] c0)) (res : Value)
    (hR : ZR s S xs ys z TO i1 i2 fun s' => R (.ok (.ret res)) s') :
    wpAny (model prog w) A.in1 (Builtin.List.listExtendWith (.ref S) (.ref z) res) (fun fin s' => match fin with | .done f => R (.ok f) s' | .again c' => c'.quiet = true ∧ codeAny (model prog w) A c' R s') (fun e s' => R (.error e) s') s := by
  have ne : S ≠ z := Nat.ne_of_gt N.z
  have f1 : Builtin.List.listSameRef (.ref S) (.ref z) = false := by simp [Builtin.List.listSameRef, ne]
  have go : ∀ (h : Heap) (c tk : Nat), (∀ b o, b ≠ S → s.heap.get? b = some o → h.get? b = some o) → h.get? S = some (lstO #[] c) → codeAny (model prog w) A (.builtin "list.extend.loop" ⟨[.ref S, .ref z, res], []⟩) R { s with heap := h, toks := tk } := fun h c tk k e =>
    zs_loop (h0 := s.heap) hh D N hn hl res (fun h' tk' c' as acc a1 a2 a3 a4 a5 => hR h' tk' c' as acc a1 a2 a3 a4 a5) xs.size 0 h tk c #[] [] (Nat.sub_zero _) (Nat.zero_le _) (g.keep N k) ⟨List.Pairwise.nil, fun _ q => (nomatch q), fun j a q => by simp at q⟩ rfl e rfl fun b o b1 _ _ _ _ e => k b o b1 e
  simp only [Builtin.List.listExtendWith]
  refine wpAny_bind (wpAny_typeOf (T := "zip") g.typ ?_)
  simp only [f1, show (Value.type "zip" == Value.type "list") = false by decide, show (Value.type "zip" == Value.type "tuple") = false by decide, Bool.or_false, Bool.false_eq_true, if_false]
  obtain ⟨f0, hz⟩ : ∃ f0, s.heap.get? z = some { cls := .type "zip", dict := none, data := .fields f0, slots := #[] } := by rcases g.st with ⟨e, _⟩ | ⟨T, f, oT, e, _⟩ <;> exact ⟨_, e⟩
  have hi : wpAny (model prog w) A.in1 (pyIter (.ref z)) (fun v s' => v = .ref z ∧ s' = s) (fun e s' => R (.error e) s') s := by
    refine wpAny_pyIter_slot g.typ F.slot_zip_iter (wpAny_call_entry F.slot_zip_iter g.typ F.entry_zip_iter ?_ (F.args_zip_iter_1 _))
    show wpAny _ _ (ret (.ref z)) _ _ s
    exact wpAny_pure ⟨_, rfl, "zip", _, g.typ, F.slot_zip_next.lookup, rfl, rfl⟩
  refine wpAny_bind (wpAny_mono hi (fun v s' hv => ?_) fun _ _ e => e)
  obtain ⟨rfl, rfl⟩ := hv
  refine wpAny_bind (wpAny_holding ?_)
  simp only [Builtin.List.listLengthHint]
  refine wpAny_bind (wpAny_specialOf g.typ zip_len0 ?_)
  refine wpAny_bind (wpAny_specialOf g.typ zip_hint0 (wpAny_pure ?_))
  show wpAny _ A.in1 (rule "list.extend.makes-room" >>= _) _ _ _
  refine wpAny_bind (wpAny_rule (wpAny_bind ?_))
  show wpAny _ A.in1 (updateSeq S (·.push .none) >>= fun _ => updateSeq S (·.pop)) _ _ _
  refine wpAny_bind (wpAny_updateSeq eS rfl ?_)
  have e2 := Heap.get?_update_self (Obj.mapSeq (·.push Value.none)) eS rfl
  refine wpAny_updateSeq (hz := by seq_fits) e2 rfl (wpAny_pure ⟨plainId_quiet F.plain_extend_loop _, go _ _ _ (fun b o hb e => ?_) (Heap.get?_update_self (Obj.mapSeq (·.pop)) e2 rfl)⟩)
  rw [Heap.get?_update_other _ _ (Ne.symm hb), Heap.get?_update_other _ _ (Ne.symm hb)]
  exact e
theorem zs_list {Q : Value → Shared → Prop} (hh : A.handled = none) (D : ZipApart z TI TO i1 i2 l1 l2) (N : ZN z TI TO i1 i2 l1 l2 s.heap.objs.size) (hn : xs.size ≤ sizeLine) (hl : ys.size = xs.size) (g : ZS z TI TO i1 i2 l1 l2 s.heap.objs.size xs ys s.heap 0)
    (hQ : ZR s s.heap.objs.size xs ys z TO i1 i2 fun s' => Q (.ref s.heap.objs.size) s') : wpAny (model prog w) A (call (.type "list") [.ref z]) Q E s := by
  refine callType_codes (Q₁ := fun obj s₁ => obj = .ref s.heap.objs.size ∧ s₁ = { s with heap := s.heap.push { cls := .type "list", data := .seq #[] } }) PySem.F.called_list (PySem.F.typeCall_list_1 _) PySem.F.entry_list_init (code_list_new _ ⟨rfl, rfl⟩) fun obj s₁ h₁ => ?_
  obtain ⟨rfl, rfl⟩ := h₁
  have eS : (s.heap.push { cls := .type "list", data := .seq #[] }).get? s.heap.objs.size = some (lstO #[] 0) := Heap.get?_push_size _ rfl
  refine ⟨⟨_, eS, rfl⟩, PySem.F.args_list_init_2 _ _, ?_⟩
  show wpAny _ _ (Builtin.List.listItems (.ref s.heap.objs.size) >>= _) _ _ _
  refine wpAny_bind ?_
  simp only [Builtin.List.listItems]
  refine wpAny_bind (wpAny_seqItems eS rfl (wpAny_pure ?_))
  show wpAny _ _ (updateSeq s.heap.objs.size (fun _ => #[]) >>= _) _ _ _
  refine wpAny_bind (wpAny_updateSeq eS rfl ?_)
  refine wpAny_bind (wpAny_letGo ?_)
  have on : ∀ b o, b ≠ s.heap.objs.size → s.heap.get? b = some o → ((s.heap.push { cls := .type "list", data := .seq #[] }).update s.heap.objs.size (Obj.mapSeq (fun _ => (#[] : Array Value)))).get? b = some o := fun b o hb e => (Heap.get?_update_other _ _ (Ne.symm hb)).trans (Heap.get?_push_of_some _ e)
  refine zs_extend (A := A.in1) (R := wants (fun r s₂ => r = .none ∧ Q (.ref s.heap.objs.size) s₂) E) hh D N hn hl (g.keep N on) (Heap.get?_update_self (Obj.mapSeq (fun _ => (#[] : Array Value))) eS rfl) .none fun h' tk c as acc a1 a2 a3 a4 a5 => ?_
  exact ⟨rfl, hQ h' tk c as acc a1 a2 a3 a4 fun b o b1 b2 b3 b4 b5 e => a5 b o b1 b2 b3 b4 b5 (on b o b1 e)⟩
end
end Rd

set_option Elab.async false
set_option linter.all false
set_option maxRecDepth 100000
set_option autoImplicit false
set_option maxHeartbeats 4000000
namespace Rd
open PySem PySem.Spec PyProof.Rows PySem.W L2
/-- a list at S and tuples at as are laid -/
def layP (H : Hp) (S : Addr) (as : List Addr) (xs ys : List L2.V) : Hp := fun b =>
  if b = S then some (.lst (as.map V.ref)) else if b ∈ as then some (.tup [xs.getD (as.idxOf b) .non, ys.getD (as.idxOf b) .non]) else H b
theorem layP_S {H : Hp} {S : Addr} {as : List Addr} {xs ys : List L2.V} : layP H S as xs ys S = some (.lst (as.map V.ref)) := if_pos rfl
theorem layP_off {H : Hp} {S b : Addr} {as : List Addr} {xs ys : List L2.V} (h1 : b ≠ S) (h2 : b ∉ as) : layP H S as xs ys b = H b := (if_neg h1).trans (if_neg h2)
theorem layP_at {H : Hp} {S : Addr} {as : List Addr} {xs ys : List L2.V} {j : Nat} {a : Addr} {x y : L2.V} (nd : as.Nodup) (hS : a ≠ S) (hj : as[j]? = some a) (hx : xs[j]? = some x) (hy : ys[j]? = some y) : layP H S as xs ys a = some (.tup [x, y]) := by
  have hm : a ∈ as := List.mem_of_getElem? hj
  have e : as.idxOf a = j := by
    obtain ⟨hl, e⟩ := List.getElem?_eq_some_iff.1 hj
    rw [← e]
    exact nd.idxOf_getElem j hl
  unfold layP
  rw [if_neg hS, if_pos hm, e, List.getD_eq_getElem?_getD, List.getD_eq_getElem?_getD, hx, hy]
  rfl
theorem vals_get : ∀ {vs : List L2.V} {us : List Value}, Vals vs us → ∀ {j : Nat} {u : Value}, us[j]? = some u → ∃ v, vs[j]? = some v ∧ RelV v u
  | _, _, .nil, _, _, h => by cases h
  | _, _, .cons r t, 0, _, h => by cases h; exact ⟨_, rfl, r⟩
  | _, _, .cons r t, j + 1, _, h => vals_get t h
def tLZ (K : PySem.W.Frag) (ta : TA) : TE := fun σ H Q => ta σ H fun vs H1 => ∃ (a b : Addr) (xs ys : List L2.V), vs = [.ref a, .ref b] ∧ SqL K H1 a xs ∧ SqL K H1 b ys ∧ xs.length = ys.length ∧
  ∀ (p : Addr) (ts : List Addr) (H' : Hp), Same H1 H' → H1 p = none → H' p = some (.lst (ts.map V.ref)) → ts.length = xs.length → (∀ (j : Nat) (t : Addr), ts[j]? = some t → ∃ x y, xs[j]? = some x ∧ ys[j]? = some y ∧ H' t = some (.tup [x, y])) → Q (.ref p) H'
section
variable {X : Cx} {pins : List (Addr × Obj)} {σ : L2.St} {H : Hp} {s : Shared}
theorem zip_laid {S : Addr} {h' : Heap} {tk c : Nat} {as : List Addr} {acc xa ya : Array Value} {xs ys : List L2.V} (I : Inv X pins σ H s) (hS : s.heap.objs.size ≤ S) (G : ZG S xa ya h' as) (hl : as.length = xa.size) (hz : xa.size ≤ sizeLine)
    (eS : h'.get? S = some (lstO acc c)) (ea : acc.toList = as.map Value.ref) (rx : Vals xs xa.toList) (ry : Vals ys ya.toList) (hk : ∀ b o, s.heap.get? b = some o → h'.get? b = some o) :
    Inv X pins σ (layP H S as xs ys) { s with heap := h', toks := tk } ∧ Same H (layP H S as xs ys) ∧ H S = none ∧ ∀ (j : Nat) (t : Addr), as[j]? = some t → ∃ x y, xs[j]? = some x ∧ ys[j]? = some y ∧ layP H S as xs ys t = some (.tup [x, y]) := by
  have nd : as.Nodup := List.Pairwise.imp (fun h => Nat.ne_of_lt h) G.rise
  have nS : H S = none := I.hok.fresh hS
  have na : ∀ t ∈ as, H t = none := fun t ht => I.hok.fresh (Nat.le_of_lt (Nat.lt_of_le_of_lt hS (G.above t ht).1))
  have kp : ∀ b u, H b = some u → layP H S as xs ys b = some u := fun b u e => by
    rw [layP_off (ne_of_none e nS) fun z => by rw [na b z] at e; cases e]
    exact e
  have low : ∀ b o, s.heap.get? b = some o → b ≠ S ∧ b ∉ as := fun b o e => by
    have lt := Heap.lt_size e
    exact ⟨fun z => absurd (z ▸ lt) (Nat.not_lt.2 hS), fun z => absurd (Nat.lt_trans lt (Nat.lt_of_le_of_lt hS (G.above b z).1)) (Nat.lt_irrefl _)⟩
  have prs : ∀ (j : Nat) (t : Addr), as[j]? = some t → ∃ x y u v, xs[j]? = some x ∧ ys[j]? = some y ∧ layP H S as xs ys t = some (.tup [x, y]) ∧ RelV x u ∧ RelV y v ∧ IsPair h' t u v := fun j t hj => by
    obtain ⟨u, v, e1, e2, e3⟩ := G.pair j t hj
    obtain ⟨x, f1, r1⟩ := vals_get rx (j := j) (u := u) (by rw [Array.getElem?_toList]; exact e1)
    obtain ⟨y, f2, r2⟩ := vals_get ry (j := j) (u := v) (by rw [Array.getElem?_toList]; exact e2)
    exact ⟨x, y, u, v, f1, f2, layP_at nd (Nat.ne_of_gt (G.above t (List.mem_of_getElem? hj)).1) hj f1 f2, r1, r2, e3⟩
  refine ⟨?_, kp, nS, fun j t hj => let ⟨x, y, _, _, f1, f2, f3, _⟩ := prs j t hj; ⟨x, y, f1, f2, f3⟩⟩
  refine I.call' (ch := []) rfl ⟨fun b o q _ _ _ => hk b o q, fun b o q _ _ _ => ⟨o.slots, hk b o q⟩, fun b o q n _ => by rw [layP_off (low b o q).1 (low b o q).2]; exact n, fun b o q _ => ⟨o, hk b o q⟩, fun b us q => kp b _ q, fun b o u q => kp b _ q, fun b ps q => ⟨#[], by rw [kp b _ q]; simp⟩⟩
    (fun b u q => ?_) I.bare fun b z => by simp at z
  by_cases hb : b = S
  · subst hb
    rw [layP_S] at q
    cases q
    refine ⟨by rw [List.length_map, hl]; exact hz, acc.toList, c, by rw [ea]; exact LiI.vals_refs as, ?_⟩
    rw [Array.toArray_toList]
    exact eS
  · by_cases hb2 : b ∈ as
    · obtain ⟨j, hj⟩ := List.mem_iff_getElem?.1 hb2
      obtain ⟨x, y, u1, u2, f1, f2, f3, r1, r2, f4⟩ := prs j b hj
      rw [f3] at q
      cases q
      exact ⟨by show 2 ≤ sizeLine; decide, [u1, u2], .cons r1 (.cons r2 .nil), ⟨_, f4, rfl, _, rfl⟩⟩
    · rw [layP_off hb hb2] at q
      exact (I.hok b u q).stay (fun d v _ y => hk d v y) (fun d y => kp d _ y) fun d us y => kp d _ y
end
section
variable {X : Cx} {e e2 : Expr} {ta : TA} {p pz pos pos2 : Pos}
/-- list(zip(e, e2)) -/
theorem pe_listzip (hc : X.calm = true) (hg : Gl X "list") (hm : X.mg "list" = none) (hgz : Gl X "zip") (hmz : X.mg "zip" = none) (ha : PA X [e, e2] ta)
    (hs : starEach [.Call (.Name "zip" pz) [e, e2] [] pos2] X.env = (false, eval (.Call (.Name "zip" pz) [e, e2] [] pos2) X.env) :: starEach [] X.env := by rfl) (hs2 : starEach [e, e2] X.env = (false, eval e X.env) :: starEach [e2] X.env := by rfl)
    (hpl : (backTo pos2 (starEach [e2] X.env)).any (·.1) = false := by rfl) : PE X (.Call (.Name "list" p) [.Call (.Name "zip" pz) [e, e2] [] pos2] [] pos) (tLZ X.K ta) := by
  refine ⟨fun pins s σ H Q I hq => ?_⟩
  refine wpAny_Call_Name_kw (ld_blt I hg hm boot_list ?_)
  refine PyProof.Rows.callWith_type1 ?_ hs rfl
  rw [hs]
  refine Calls.spliced_cons (wpAny_Call_Name_kw (ld_blt I hgz hmz PyProof.Rows.boot_zip (PyProof.Rows.callWith_type1 (thn (ha.run pos2 pins s σ H _ I hq) fun us s1 ⟨vs, H1, I1, r1, q1⟩ => ?_) hs2 hpl)))
  obtain ⟨a, b, xs, ys, ev, hqx, hqy, hl, q⟩ := q1
  subst ev
  cases r1 with
  | cons ra rr =>
    cases rr with
    | cons rb rr =>
      cases rr
      cases ra
      cases rb
      obtain ⟨its, rv, p1, z1⟩ := I1.list hqx
      obtain ⟨its2, rv2, p2, z2⟩ := I1.list hqy
      have l1 := rv.length
      have l2 := rv2.length
      refine call_zip_2 p1.isList p2.isList fun h' hz hTI hTO h1 h2 hsz hk => Calls.spliced_nil ?_
      have D := PySem.W.ktu_apart s1.heap.objs.size a b p1.lt p2.lt
      have N : ZN (s1.heap.objs.size + 4) (s1.heap.objs.size + 2) (s1.heap.objs.size + 3) s1.heap.objs.size (s1.heap.objs.size + 1) a b h'.objs.size := by
        have la := p1.lt
        have lb := p2.lt
        rw [hsz]
        exact ⟨Nat.lt_succ_self _, Nat.add_lt_add_left (by decide : 2 < 5) _, Nat.add_lt_add_left (by decide : 3 < 5) _, Nat.lt_add_of_pos_right (by decide), Nat.add_lt_add_left (by decide : 1 < 5) _, Nat.lt_of_lt_of_le la (Nat.le_add_right _ _), Nat.lt_of_lt_of_le lb (Nat.le_add_right _ _)⟩
      refine zs_list (s := { s1 with heap := h' }) (xs := its.toArray) (ys := its2.toArray) (I1.ok.hd hc) D N (by rw [List.size_toArray, ← l1]; omega) (by rw [List.size_toArray, List.size_toArray]; omega)
        ⟨hTI, h1, h2, p1.isList.at fun o => hk _ o, p2.isList.at fun o => hk _ o, .inl ⟨hz, _, _, hTO⟩⟩ fun h'' tk c as acc G al eS ea k2 => ?_
      have hS : s1.heap.objs.size ≤ h'.objs.size := by rw [hsz]; omega
      have kk : ∀ b o, s1.heap.get? b = some o → h''.get? b = some o := fun b o e => by
        have lt := Heap.lt_size e
        have lt2 : b < h'.objs.size := Nat.lt_of_lt_of_le lt hS
        exact k2 b o (Nat.ne_of_lt lt2) (Nat.ne_of_lt (Nat.lt_of_lt_of_le lt (Nat.le_add_right _ _))) (Nat.ne_of_lt (Nat.lt_of_lt_of_le lt (Nat.le_add_right _ _))) (Nat.ne_of_lt lt) (Nat.ne_of_lt (Nat.lt_of_lt_of_le lt (Nat.le_add_right _ _))) (hk b o e)
      obtain ⟨J, sm, nS, prs⟩ := zip_laid (tk := tk) (xs := xs) (ys := ys) I1 hS G al (by rw [List.size_toArray, ← l1]; omega) eS ea (by simpa using rv) (by simpa using rv2) kk
      exact ⟨.ref _, _, J, rfl, q _ as _ sm nS layP_S (by rw [al, List.size_toArray]; omega) prs⟩
end
/-- a, b as a target, where the reading must not speak of the context -/
theorem pg_tupK {X : Cx} {K : PySem.W.Frag} {es : List Expr} {k : Nat} {pos : Pos} {t : TGs} {n : Nat} (hc : X.calm = true) (h : PGs X es t) (hn : (assignEach es X.env).length = n := by rfl) (hst : (assignEach es X.env).findIdx? (·.1) = none := by rfl) (hk : X.K = K := by rfl) : PG X (.Tuple es k pos) (gTup K n t) :=
  hk ▸ pg_tup hc h hn hst
end Rd

set_option Elab.async false
set_option linter.all false
set_option maxRecDepth 100000
set_option maxHeartbeats 4000000
/-! the end of a law one of whose defs (x0) makes lambdas: its table of code objects is empty at the start -/
namespace Rd
open PySem PySem.Spec PyProof.Rows L2 LamX
theorem walk_ofDef {l : PySem.W.OpenLaw} {n k : Nat} {q : Program} {loose : List Str} {XP : (Str → Option Value) → Heap → Prop} {YP : World → Heap → Prop} {d : DefRec} {K : Params → PySem.W.Frag} {CX : World → CXT} {x : Str} (x0 : Str)
    (hn : l.most = some n) (hn2 : n ≤ sizeLine) (hdf : d.params.defaults = []) (hr : Room k callerA) (hrec : ((recsOf q).find? fun e => e.name == x0).isSome = true) (hY : ∀ (w : World) (h : Heap), YP w h → (K w.params).In h)
    (F : ∀ (w : World) (mg : Str → Option Value) (fa : Addr) (h : Heap), (K w.params).In h → h.Ns mainGlobals mg → mg d.name = some (.ref fa) → (∀ c P, PySem.W.tabIn (K w.params) x0 = some (c, P) → PySem.W.CodeHd h c P ∧ h.get? P = some (PySem.W.tabObj #[])) → LawAtS l w (K w.params) (CX w) k n x mg fa h)
    (hCX : ∀ (w : World) (H : Hp) (s : Shared) (e : Value) (s' : Shared), CX w [] H s (fun _ _ _ => False) e s' → False) : PySem.W.WalkO q loose XP YP l.row.toRowW d [] (fun f vs => PySem.call f vs) := by
  refine Att.attach_callB hn hdf fun w s₀ s₁ mg mb fa o pm cd doc a vs ns G Y ho hd hcd hmg hobj hints hlen hbits hg => ?_
  have KX := hY w _ Y
  obtain ⟨dr, hdr⟩ := Option.isSome_iff_exists.1 hrec
  obtain ⟨fd, cs, sp, hT, nT, C, hb, hsp, hF⟩ := F w mg fa _ KX G.T.g hmg fun c P e => PySem.W.tab_of G.T KX hdr e
  exact law_callTs KX G.T.g G.T.b G.T.builtins G.T.nolimit hg hT nT C G.T.bmain hobj hints (Nat.le_trans hlen hn2) hr hF hb (fun H hH hS => hsp H a ns hlen hbits hH hS) fun H e s' z => hCX w H s₁ e s' z
end Rd

set_option Elab.async false
set_option linter.all false
set_option maxRecDepth 100000
set_option autoImplicit false
set_option maxHeartbeats 4000000
/-! ints by their bits -/
namespace Nu
open PySem L2
/-- the bit k of n -/
def bitk (n : Int) (k : Nat) : Int := n / 2 ^ k % 2
theorem bitk01 (n : Int) (k : Nat) : bitk n k = 0 ∨ bitk n k = 1 := by unfold bitk; omega
theorem bitk_zero (n : Int) : bitk n 0 = n % 2 := by unfold bitk; rw [Int.pow_zero, Int.ediv_one]
theorem half_pow (n : Int) (k : Nat) : n / 2 ^ (k + 1) = n / 2 / 2 ^ k := by
  rw [Int.pow_succ, Int.mul_comm, ← Int.ediv_ediv_of_nonneg (by decide)]
theorem bitk_succ (n : Int) (k : Nat) : bitk n (k + 1) = bitk (n / 2) k := by unfold bitk; rw [half_pow]
theorem nat_and_half (a b : Nat) : (a &&& b) / 2 = (a / 2) &&& (b / 2) := by
  have := Nat.shiftRight_and_distrib (a := a) (b := b) (i := 1)
  simpa [Nat.shiftRight_succ] using this
theorem nat_and_mod (a b : Nat) : (a &&& b) % 2 = (a % 2) * (b % 2) := by
  have h := Nat.and_mod_two_pow (a := a) (b := b) (n := 1)
  rw [Nat.pow_one] at h
  rw [h]
  rcases Nat.mod_two_eq_zero_or_one a with e | e <;> rcases Nat.mod_two_eq_zero_or_one b with f | f <;> rw [e, f] <;> decide
theorem nat_or_half (a b : Nat) : (a ||| b) / 2 = (a / 2) ||| (b / 2) := by
  have := Nat.shiftRight_or_distrib (a := a) (b := b) (i := 1)
  simpa [Nat.shiftRight_succ] using this
theorem and_step (x y : Int) : Builtin.bitAnd x y = 2 * Builtin.bitAnd (x / 2) (y / 2) + (x % 2) * (y % 2) := by
  have key : ∀ a b : Nat, a &&& b = 2 * ((a / 2) &&& (b / 2)) + (a % 2) * (b % 2) := fun a b => by
    have h1 := nat_and_half a b
    have h2 := nat_and_mod a b
    rw [← h1, ← h2]
    omega
  by_cases hx : 0 ≤ x
  · by_cases hy : 0 ≤ y
    · rw [PyProof.Rows.bitAnd_pp hx hy, PyProof.Rows.bitAnd_pp (show 0 ≤ x / 2 by omega) (show 0 ≤ y / 2 by omega)]
      have e := key x.toNat y.toNat
      rw [show (x / 2).toNat = x.toNat / 2 by omega, show (y / 2).toNat = y.toNat / 2 by omega]
      rw [e]
      rw [show x % 2 = ((x.toNat % 2 : Nat) : Int) by omega, show y % 2 = ((y.toNat % 2 : Nat) : Int) by omega]
      push_cast
      rfl
    · rw [PyProof.Rows.bitAnd_pn hx hy, PyProof.Rows.bitAnd_pn (show 0 ≤ x / 2 by omega) (show ¬ 0 ≤ y / 2 by omega)]
      have e := key x.toNat (Builtin.bitNot y).toNat
      have ny : Builtin.bitNot y = -y - 1 := rfl
      have ny2 : Builtin.bitNot (y / 2) = -(y / 2) - 1 := rfl
      rw [show (x / 2).toNat = x.toNat / 2 by omega, show (Builtin.bitNot (y / 2)).toNat = (Builtin.bitNot y).toNat / 2 by omega]
      rw [e]
      have hm : (Builtin.bitNot y).toNat % 2 = (1 - y % 2).toNat := by omega
      rw [hm]
      generalize ((x.toNat / 2) &&& ((Builtin.bitNot y).toNat / 2)) = z
      rcases (show y % 2 = 0 ∨ y % 2 = 1 by omega) with f | f <;> rw [f]
      · rw [show (1 - 0 : Int).toNat = 1 from rfl]
        omega
      · rw [show (1 - 1 : Int).toNat = 0 from rfl]
        omega
  · by_cases hy : 0 ≤ y
    · rw [PyProof.Rows.bitAnd_np hx hy, PyProof.Rows.bitAnd_np (show ¬ 0 ≤ x / 2 by omega) (show 0 ≤ y / 2 by omega)]
      have e := key y.toNat (Builtin.bitNot x).toNat
      have ny : Builtin.bitNot x = -x - 1 := rfl
      have ny2 : Builtin.bitNot (x / 2) = -(x / 2) - 1 := rfl
      rw [show (y / 2).toNat = y.toNat / 2 by omega, show (Builtin.bitNot (x / 2)).toNat = (Builtin.bitNot x).toNat / 2 by omega]
      rw [e]
      have hm : (Builtin.bitNot x).toNat % 2 = (1 - x % 2).toNat := by omega
      rw [hm]
      generalize ((y.toNat / 2) &&& ((Builtin.bitNot x).toNat / 2)) = z
      rcases (show x % 2 = 0 ∨ x % 2 = 1 by omega) with f | f <;> rw [f]
      · rw [show (1 - 0 : Int).toNat = 1 from rfl]
        omega
      · rw [show (1 - 1 : Int).toNat = 0 from rfl]
        omega
    · rw [PyProof.Rows.bitAnd_nn hx hy, PyProof.Rows.bitAnd_nn (show ¬ 0 ≤ x / 2 by omega) (show ¬ 0 ≤ y / 2 by omega)]
      have nx : Builtin.bitNot x = -x - 1 := rfl
      have nx2 : Builtin.bitNot (x / 2) = -(x / 2) - 1 := rfl
      have ny : Builtin.bitNot y = -y - 1 := rfl
      have ny2 : Builtin.bitNot (y / 2) = -(y / 2) - 1 := rfl
      rw [show (Builtin.bitNot (x / 2)).toNat = (Builtin.bitNot x).toNat / 2 by omega, show (Builtin.bitNot (y / 2)).toNat = (Builtin.bitNot y).toNat / 2 by omega]
      have h1 := nat_or_half (Builtin.bitNot x).toNat (Builtin.bitNot y).toNat
      have h2 := PyProof.Rows.nat_or_add_and (Builtin.bitNot x).toNat (Builtin.bitNot y).toNat
      have h3 := key (Builtin.bitNot x).toNat (Builtin.bitNot y).toNat
      have h4 := PyProof.Rows.nat_or_add_and ((Builtin.bitNot x).toNat / 2) ((Builtin.bitNot y).toNat / 2)
      have m1 : (Builtin.bitNot x).toNat % 2 = (1 - x % 2).toNat := by omega
      have m2 : (Builtin.bitNot y).toNat % 2 = (1 - y % 2).toNat := by omega
      rw [m1, m2] at h3
      unfold Builtin.bitNot at *
      generalize ((-x - 1).toNat ||| (-y - 1).toNat) = o1 at *
      generalize ((-x - 1).toNat &&& (-y - 1).toNat) = a1 at *
      generalize ((-x - 1).toNat / 2 ||| (-y - 1).toNat / 2) = o2 at *
      generalize ((-x - 1).toNat / 2 &&& (-y - 1).toNat / 2) = a2 at *
      rcases (show x % 2 = 0 ∨ x % 2 = 1 by omega) with f | f <;> rcases (show y % 2 = 0 ∨ y % 2 = 1 by omega) with g | g <;> rw [f, g] at h3 ⊢
      · rw [show (1 - 0 : Int).toNat = 1 from rfl] at h3
        omega
      · rw [show (1 - 0 : Int).toNat = 1 from rfl, show (1 - 1 : Int).toNat = 0 from rfl] at h3
        omega
      · rw [show (1 - 0 : Int).toNat = 1 from rfl, show (1 - 1 : Int).toNat = 0 from rfl] at h3
        omega
      · rw [show (1 - 1 : Int).toNat = 0 from rfl] at h3
        omega
theorem ab01 (x y : Int) : (x % 2) * (y % 2) = 0 ∧ (x % 2 = 0 ∨ y % 2 = 0) ∨ (x % 2) * (y % 2) = 1 ∧ x % 2 = 1 ∧ y % 2 = 1 := by
  rcases (show x % 2 = 0 ∨ x % 2 = 1 by omega) with f | f <;> rcases (show y % 2 = 0 ∨ y % 2 = 1 by omega) with g | g <;> rw [f, g] <;> simp
theorem and_half (x y : Int) : Builtin.bitAnd x y / 2 = Builtin.bitAnd (x / 2) (y / 2) := by
  have := and_step x y
  have := ab01 x y
  omega
theorem and_mod (x y : Int) : Builtin.bitAnd x y % 2 = (x % 2) * (y % 2) := by
  have := and_step x y
  have := ab01 x y
  omega
theorem or_half (x y : Int) : Builtin.bitOr x y / 2 = Builtin.bitOr (x / 2) (y / 2) := by
  rw [PyProof.Rows.bitOr_and, PyProof.Rows.bitOr_and]
  have := and_step x y
  have := ab01 x y
  omega
theorem or_mod (x y : Int) : Builtin.bitOr x y % 2 = x % 2 + y % 2 - (x % 2) * (y % 2) := by
  rw [PyProof.Rows.bitOr_and]
  have := and_step x y
  have := ab01 x y
  omega
theorem xor_and (x y : Int) : Builtin.bitXor x y = x + y - 2 * Builtin.bitAnd x y := by
  unfold Builtin.bitXor
  rw [PyProof.Rows.bitOr_and]
  omega
theorem xor_half (x y : Int) : Builtin.bitXor x y / 2 = Builtin.bitXor (x / 2) (y / 2) := by
  rw [xor_and, xor_and]
  have := and_step x y
  have := ab01 x y
  omega
theorem xor_mod (x y : Int) : Builtin.bitXor x y % 2 = x % 2 + y % 2 - 2 * ((x % 2) * (y % 2)) := by
  rw [xor_and]
  have := and_step x y
  have := ab01 x y
  omega
theorem and_div : ∀ (k : Nat) (x y : Int), Builtin.bitAnd x y / 2 ^ k = Builtin.bitAnd (x / 2 ^ k) (y / 2 ^ k)
  | 0, x, y => by rw [Int.pow_zero, Int.ediv_one, Int.ediv_one, Int.ediv_one]
  | k + 1, x, y => by rw [half_pow, half_pow, half_pow, and_half, and_div k]
theorem or_div : ∀ (k : Nat) (x y : Int), Builtin.bitOr x y / 2 ^ k = Builtin.bitOr (x / 2 ^ k) (y / 2 ^ k)
  | 0, x, y => by rw [Int.pow_zero, Int.ediv_one, Int.ediv_one, Int.ediv_one]
  | k + 1, x, y => by rw [half_pow, half_pow, half_pow, or_half, or_div k]
theorem xor_div : ∀ (k : Nat) (x y : Int), Builtin.bitXor x y / 2 ^ k = Builtin.bitXor (x / 2 ^ k) (y / 2 ^ k)
  | 0, x, y => by rw [Int.pow_zero, Int.ediv_one, Int.ediv_one, Int.ediv_one]
  | k + 1, x, y => by rw [half_pow, half_pow, half_pow, xor_half, xor_div k]
theorem bitk_and (x y : Int) (k : Nat) : bitk (Builtin.bitAnd x y) k = bitk x k * bitk y k := by unfold bitk; rw [and_div, and_mod]
theorem bitk_or (x y : Int) (k : Nat) : bitk (Builtin.bitOr x y) k = if bitk y k > bitk x k then bitk y k else bitk x k := by
  have e : bitk (Builtin.bitOr x y) k = bitk x k + bitk y k - bitk x k * bitk y k := by unfold bitk; rw [or_div, or_mod]
  rw [e]
  rcases bitk01 x k with a | a <;> rcases bitk01 y k with b | b <;> rw [a, b] <;> decide
theorem bitk_xor (x y : Int) (k : Nat) : bitk (Builtin.bitXor x y) k = if bitk x k = bitk y k then 0 else 1 := by
  have e : bitk (Builtin.bitXor x y) k = bitk x k + bitk y k - 2 * (bitk x k * bitk y k) := by unfold bitk; rw [xor_div, xor_mod]
  rw [e]
  rcases bitk01 x k with a | a <;> rcases bitk01 y k with b | b <;> rw [a, b] <;> decide
theorem not_div : ∀ (k : Nat) (x : Int), (-1 - x) / 2 ^ k = -1 - x / 2 ^ k
  | 0, x => by rw [Int.pow_zero, Int.ediv_one, Int.ediv_one]
  | k + 1, x => by rw [half_pow, half_pow, show (-1 - x) / 2 = -1 - x / 2 by omega, not_div k]
theorem bitk_not (x : Int) (k : Nat) : bitk (-1 - x) k = 1 - bitk x k := by
  unfold bitk
  rw [not_div]
  omega
/-! ### sums of bits -/
def usum (b : Nat → Int) : Nat → Int
  | 0 => 0
  | n + 1 => usum b n + b n * 2 ^ n
theorem usum_ext {b c : Nat → Int} : ∀ {n : Nat}, (∀ k, k < n → b k = c k) → usum b n = usum c n
  | 0, _ => rfl
  | n + 1, h => by
    show usum b n + b n * 2 ^ n = usum c n + c n * 2 ^ n
    rw [usum_ext fun k hk => h k (by omega), h n (by omega)]
theorem usum_bitk (x : Int) : ∀ n : Nat, usum (bitk x) n = x % 2 ^ n
  | 0 => by rw [Int.pow_zero, Int.emod_one]; rfl
  | n + 1 => by
    show usum (bitk x) n + bitk x n * 2 ^ n = _
    rw [usum_bitk x n]
    unfold bitk
    have hp := pow_pos2 n
    have e1 := Int.emod_add_mul_ediv x (2 ^ n)
    have e2 := Int.emod_add_mul_ediv (x / 2 ^ n) 2
    have r1 := Int.emod_nonneg x (b := 2 ^ n) (by omega)
    have r2 := Int.emod_lt_of_pos x hp
    have b1 := Int.emod_nonneg (x / 2 ^ n) (b := 2) (by omega)
    have b2 := Int.emod_lt_of_pos (x / 2 ^ n) (show (0 : Int) < 2 by omega)
    generalize x / 2 ^ n % 2 = b at *
    generalize x / 2 ^ n / 2 = q at *
    have ex : x = (x % 2 ^ n + b * 2 ^ n) + 2 ^ (n + 1) * q := by
      rw [Int.pow_succ]
      rw [← e2] at e1
      have : (2 : Int) ^ n * (b + 2 * q) = b * 2 ^ n + 2 ^ n * 2 * q := by rw [Int.mul_add, Int.mul_comm b, Int.mul_assoc]
      omega
    have lt : x % 2 ^ n + b * 2 ^ n < 2 ^ (n + 1) := by
      rw [Int.pow_succ]
      rcases (show b = 0 ∨ b = 1 by omega) with rfl | rfl <;> omega
    have nn : 0 ≤ x % 2 ^ n + b * 2 ^ n := by
      rcases (show b = 0 ∨ b = 1 by omega) with rfl | rfl <;> omega
    generalize x % 2 ^ n + b * 2 ^ n = z at *
    rw [ex, Int.add_mul_emod_self_left, Int.emod_eq_of_lt nn lt]
/-- the int with some bits, the last one its sign -/
def numB (b : Nat → Int) : Int := usum b 63 - b 63 * 9223372036854775808
theorem numB_ext {b c : Nat → Int} (h : ∀ k, k < 64 → b k = c k) : numB b = numB c := by
  unfold numB
  rw [usum_ext fun k hk => h k (by omega), h 63 (by decide)]
def In64 (n : Int) : Prop := -9223372036854775808 ≤ n ∧ n < 9223372036854775808
theorem in64_iff {n : Int} : In64 n ↔ n / 2 ^ 63 = 0 ∨ n / 2 ^ 63 = -1 := by
  unfold In64
  rw [show (2 : Int) ^ 63 = 9223372036854775808 by decide]
  omega
theorem numB_bitk {x : Int} (h : In64 x) : numB (bitk x) = x := by
  unfold numB
  rw [usum_bitk]
  unfold bitk
  have h' := in64_iff.1 h
  rw [show (2 : Int) ^ 63 = 9223372036854775808 by decide] at *
  omega
theorem in64_and {x y : Int} (hx : In64 x) (hy : In64 y) : In64 (Builtin.bitAnd x y) := by
  rw [in64_iff] at *
  rw [and_div]
  rcases hx with a | a <;> rcases hy with b | b <;> rw [a, b] <;> decide
theorem in64_or {x y : Int} (hx : In64 x) (hy : In64 y) : In64 (Builtin.bitOr x y) := by
  rw [in64_iff] at *
  rw [or_div]
  rcases hx with a | a <;> rcases hy with b | b <;> rw [a, b] <;> decide
theorem in64_xor {x y : Int} (hx : In64 x) (hy : In64 y) : In64 (Builtin.bitXor x y) := by
  rw [in64_iff] at *
  rw [xor_div]
  rcases hx with a | a <;> rcases hy with b | b <;> rw [a, b] <;> decide
def wrapI (n : Int) : Int := (n + 9223372036854775808) % 18446744073709551616 - 9223372036854775808
theorem in64_wrap (n : Int) : In64 (wrapI n) := by unfold In64 wrapI; omega
theorem wrap_in {n : Int} (h : In64 n) : wrapI n = n := by unfold In64 at h; unfold wrapI; omega
theorem bitk_add_mul (n q : Int) {k m : Nat} (h : k < m) : bitk (n + 2 ^ m * q) k = bitk n k := by
  unfold bitk
  obtain ⟨d, rfl⟩ : ∃ d, m = k + 1 + d := ⟨m - (k + 1), by omega⟩
  have e : (2 : Int) ^ (k + 1 + d) * q = 2 ^ k * (2 * (2 ^ d * q)) := by
    rw [Int.pow_add, Int.pow_succ]
    simp only [Int.mul_assoc]
  have hp := pow_pos2 k
  rw [e, Int.add_mul_ediv_left _ _ (by omega)]
  omega
theorem bitk_wrap (n : Int) {k : Nat} (h : k < 64) : bitk (wrapI n) k = bitk n k := by
  have e : wrapI n = n + 2 ^ 64 * (-((n + 9223372036854775808) / 18446744073709551616)) := by
    unfold wrapI
    rw [show (2 : Int) ^ 64 = 18446744073709551616 by decide]
    omega
  rw [e, bitk_add_mul n _ h]
theorem numB_wrap (n : Int) : numB (bitk n) = wrapI n := by
  rw [← numB_bitk (in64_wrap n)]
  exact numB_ext fun k hk => (bitk_wrap n hk).symm
theorem bitk_shl (x : Int) (f k : Nat) : bitk (x * 2 ^ f) k = if f ≤ k then bitk x (k - f) else 0 := by
  split
  · rename_i h
    unfold bitk
    obtain ⟨d, rfl⟩ : ∃ d, k = f + d := ⟨k - f, by omega⟩
    rw [Int.pow_add, Int.mul_comm x, Int.mul_ediv_mul_of_pos _ _ (pow_pos2 f), show f + d - f = d by omega]
  · rename_i h
    have e : x * 2 ^ f = 0 + 2 ^ f * x := by rw [Int.zero_add, Int.mul_comm]
    rw [e, bitk_add_mul 0 x (by omega)]
    unfold bitk
    rw [Int.zero_ediv]
    rfl
theorem bitk_shr (x : Int) (f k : Nat) : bitk (x / 2 ^ f) k = bitk x (f + k) := by
  unfold bitk
  rw [Int.pow_add, Int.ediv_ediv_of_nonneg (Int.le_of_lt (pow_pos2 f))]
theorem bitk_low (x : Int) (m k : Nat) : bitk (x % 2 ^ m) k = if k < m then bitk x k else 0 := by
  split
  · rename_i h
    have e := Int.emod_add_mul_ediv x (2 ^ m)
    have := bitk_add_mul (x % 2 ^ m) (x / 2 ^ m) h
    rw [e] at this
    exact this.symm
  · rename_i h
    unfold bitk
    have r1 := Int.emod_nonneg x (b := 2 ^ m) (by have := pow_pos2 m; omega)
    have r2 := Int.emod_lt_of_pos x (pow_pos2 m)
    have := pow_mono (a := m) (b := k) (by omega)
    rw [Int.ediv_eq_zero_of_lt r1 (by omega)]
    rfl
/-- a shift to the left, by any number -/
def shlI (x f : Int) : Int := if f ≤ -64 ∨ 64 ≤ f then 0 else if f < 0 then wrapI (x % 18446744073709551616 / 2 ^ (0 - f).toNat) else wrapI (x * 2 ^ f.toNat)
theorem usum_zero : ∀ n, usum (fun _ => 0) n = 0
  | 0 => rfl
  | n + 1 => by show usum _ n + 0 * 2 ^ n = 0; rw [usum_zero n]; omega
theorem shl_bits (x f : Int) : numB (fun k => if 0 ≤ (k : Int) - f ∧ (k : Int) - f < 64 then bitk x ((k : Int) - f).toNat else 0) = shlI x f := by
  unfold shlI
  split
  · rename_i h
    have : numB (fun k => if 0 ≤ (k : Int) - f ∧ (k : Int) - f < 64 then bitk x ((k : Int) - f).toNat else 0) = numB (fun _ => 0) := numB_ext fun k hk => if_neg (by omega)
    rw [this]
    unfold numB
    rw [usum_zero]
    rfl
  · split
    · rw [← numB_wrap]
      refine numB_ext fun k hk => ?_
      rw [show (18446744073709551616 : Int) = 2 ^ 64 by decide, bitk_shr, bitk_low]
      by_cases c : (0 - f).toNat + k < 64
      · rw [if_pos c, if_pos (by omega)]
        congr 1
        omega
      · rw [if_neg c, if_neg (by omega)]
    · rw [← numB_wrap]
      refine numB_ext fun k hk => ?_
      rw [bitk_shl]
      by_cases c : f.toNat ≤ k
      · rw [if_pos c, if_pos (by omega)]
        congr 1
        omega
      · rw [if_neg c, if_neg (by omega)]
end Nu

set_option Elab.async false
set_option linter.all false
set_option maxRecDepth 100000
set_option autoImplicit false
set_option maxHeartbeats 4000000
namespace Nu
open PySem PySem.Spec PyProof.Rows L2 Rd
def top (i : Nat) : Stmt := PySem.Challenge.pw_walkmade_k04_bits_of_numbers.main.body.getD i (.Pass ⟨0, 0, 0, 0⟩)
abbrev s_Float_init : Stmt := inClass (top 12) 0
abbrev s_Float_is_finite : Stmt := inClass (top 12) 4
abbrev s_Float_ratio : Stmt := inClass (top 12) 5
abbrev s_is_plain : Stmt := top 13
abbrev s_reduced : Stmt := top 14
abbrev s_fits : Stmt := top 15
abbrev s_sign_of : Stmt := top 16
abbrev s_infinity : Stmt := top 18
abbrev s_nearest : Stmt := top 19
abbrev s_to_float : Stmt := top 21
/-! ### floats as data -/
inductive Fl where
  | fin (s t p : Int)
  | inf (s : Int)
  | nan
  deriving DecidableEq
def Fl.s : Fl → Int
  | .fin s _ _ => s
  | .inf s => s
  | .nan => 1
def Fl.t : Fl → V
  | .fin _ t _ => .int t
  | .inf _ => .str "inf"
  | .nan => .str "nan"
def Fl.p : Fl → Int
  | .fin _ _ p => p
  | _ => 0
def flds (s : Int) (t : V) (p : Int) : List (Str × V) := putF "power" (.int p) (putF "top" t (putF "sign" (.int s) []))
theorem ne_st : ¬ ("sign" : Str) = "top" := by decide +kernel
theorem ne_sp : ¬ ("sign" : Str) = "power" := by decide +kernel
theorem ne_tp : ¬ ("top" : Str) = "power" := by decide +kernel
theorem flds_s (s : Int) (t : V) (p : Int) : (flds s t p).lookup ("sign" : Str) = some (.int s) := by
  unfold flds
  rw [lookup_putF, if_neg ne_sp, lookup_putF, if_neg ne_st, lookup_putF, if_pos rfl]
theorem flds_t (s : Int) (t : V) (p : Int) : (flds s t p).lookup ("top" : Str) = some t := by
  unfold flds
  rw [lookup_putF, if_neg ne_tp, lookup_putF, if_pos rfl]
theorem flds_p (s : Int) (t : V) (p : Int) : (flds s t p).lookup ("power" : Str) = some (.int p) := by
  unfold flds
  rw [lookup_putF, if_pos rfl]
theorem flds_no (s : Int) (t : V) (p : Int) {m : Str} (h1 : ¬ m = "sign") (h2 : ¬ m = "top") (h3 : ¬ m = "power") : (flds s t p).lookup m = none := by
  unfold flds
  rw [lookup_putF, if_neg h3, lookup_putF, if_neg h2, lookup_putF, if_neg h1]
  rfl
/-- the float f stands at a -/
def FlAt (C : Addr) (H : Hp) (a : Addr) (f : Fl) : Prop := ∃ dx, H a = some (.ins C dx (flds f.s f.t f.p))
theorem FlAt.same {C : Addr} {H H' : Hp} {a : Addr} {f : Fl} (h : FlAt C H a f) (s : Same H H') : FlAt C H' a f := let ⟨dx, e⟩ := h; ⟨dx, s _ _ e⟩
/-- a float that stands is well made -/
def Fl.ok : Fl → Prop
  | .fin s t p => (s = 1 ∨ s = -1) ∧ 0 ≤ t ∧ t < 9007199254740992 ∧ (t = 0 → p = 0) ∧ (t ≠ 0 → -1074 ≤ p ∧ bits t + p ≤ 1024 ∧ t % 2 = 1)
  | .inf s => s = 1 ∨ s = -1
  | .nan => True
/-! ### what the text has -/
structure ClsTy (K : PySem.W.Frag) (C : Addr) : Prop where
  ha : PySem.W.findIn K (.ref C) "__class__" = some (some (.builtin "object.__class__"))
  hn : PySem.W.specialIn K (.builtin "object.__class__") "__get__" = some (some (.builtin "getset_descriptor.__get__"))
  htk : PySem.W.takesIn K (.builtin "object.__class__") = some true
  hm : PySem.W.mroIn K C (.type "object") = some true
structure All (K : PySem.W.Frag) (mg : Str → Option Value) (CF : Addr) : Prop where
  b_isinstance : mg "isinstance" = none
  b_int : mg "int" = none
  b_str : mg "str" = none
  b_bool : mg "bool" = none
  b_abs : mg "abs" = none
  b_max : mg "max" = none
  b_min : mg "min" = none
  b_divmod : mg "divmod" = none
  b_len : mg "len" = none
  b_range : mg "range" = none
  c_LEAST : ∃ t, mg "LEAST" = some (.int (-9223372036854775808) t)
  c_MOST : ∃ t, mg "MOST" = some (.int 9223372036854775807 t)
  c_ROOM : ∃ t, mg "ROOM" = some (.int 9007199254740992 t)
  c_LOWEST : ∃ t, mg "LOWEST" = some (.int (-1074) t)
  c_TOO_GREAT : ∃ t, mg "TOO_GREAT" = some (.int 1024 t)
  g_Float : mg "Float" = some (.ref CF)
  l_Float : Cls K CF
  y_Float : ClsTy K CF
  n_sign : NoAttr K CF "sign"
  n_top : NoAttr K CF "top"
  n_power : NoAttr K CF "power"
  i_Fint : PySem.W.kitOne K (.ref CF) (.type "int") = some false
  i_Fbool : PySem.W.kitOne K (.ref CF) (.type "bool") = some false
  i_Fstr : PySem.W.kitOne K (.ref CF) (.type "str") = some false
  i_intF : PySem.W.kitOne K (.type "int") (.ref CF) = some false
  i_boolF : PySem.W.kitOne K (.type "bool") (.ref CF) = some false
  i_strF : PySem.W.kitOne K (.type "str") (.ref CF) = some false
  i_nonF : PySem.W.kitOne K (.type "NoneType") (.ref CF) = some false
  x_init : TxC K mg "Float" CF "Float.__init__" s_Float_init ["self", "sign", "top", "power"]
  x_is_finite : TxM K CF "is_finite" "Float.is_finite" s_Float_is_finite ["self"]
  x_ratio : TxM K CF "ratio" "Float.ratio" s_Float_ratio ["self"]
  x_is_plain : Tx K mg "is_plain" "is_plain" s_is_plain ["number"]
  x_reduced : Tx K mg "reduced" "reduced" s_reduced ["top", "power"]
  x_fits : Tx K mg "fits" "fits" s_fits ["top", "power"]
  x_sign_of : Tx K mg "sign_of" "sign_of" s_sign_of ["is_negative"]
  x_infinity : Tx K mg "infinity" "infinity" s_infinity ["sign"]
  x_nearest : Tx K mg "nearest" "nearest" s_nearest ["sign", "top", "bottom"]
  x_to_float : Tx K mg "to_float" "to_float" s_to_float ["number"]
/-! ### what isinstance says of a value -/
def Says (K : PySem.W.Frag) (CF : Addr) (H : Hp) (x : V) (pl bo st fl : Bool) : Prop :=
  ∃ t, TyX K H x t ∧ PySem.W.kitOne K t (.type "int") = some (pl || bo) ∧ PySem.W.kitOne K t (.type "bool") = some bo ∧ PySem.W.kitOne K t (.type "str") = some st ∧ PySem.W.kitOne K t (.ref CF) = some fl
local macro_rules | `(tactic| walk_at "hp") => `(tactic| first | assumption | (refine same_get ?sm ?_; (case sm => assumption); walk_at "hp"))
local macro_rules | `(tactic| walk_at "rd") => `(tactic| first
  | with_reducible refine w_nx ?_
  | with_reducible refine w_rt ?_
  | with_reducible refine w_bk ?_
  | with_reducible refine w_ct ?_
  | with_reducible refine w_seq ?_
  | with_reducible refine w_next ?_
  | with_reducible refine w_ret ?_
  | with_reducible refine w_ifS ?_
  | with_reducible refine w_asg ?_
  | with_reducible refine w_name ?_
  | with_reducible refine w_par ?_
  | with_reducible refine w_parI ?_
  | with_reducible refine w_ii ?_
  | with_reducible refine w_i1 ?_
  | with_reducible refine w_drop ?_
  | with_reducible refine w_sFld ?_
  | ((with_reducible refine' w_var ?rdh ?_); (case rdh => exact rfl))
  | with_reducible refine w_c ?_
  | with_reducible refine w_op ?_
  | with_reducible refine w_un ?_
  | with_reducible refine w_I0 ?_
  | with_reducible refine w_U ?_
  | with_reducible refine w_bits ?_
  | with_reducible refine w_bitsI ?_
  | with_reducible refine w_tup ?_
  | with_reducible refine w_lst ?_
  | with_reducible refine w_nil ?_
  | with_reducible refine w_cons ?_
  | with_reducible refine w_fld ?_
  | with_reducible refine w_call ?_
  | with_reducible refine w_make ?_
  | with_reducible refine w_makeD ?_
  | with_reducible refine w_nn ?_
  | with_reducible refine w_subB ?_
  | with_reducible refine w_meth ?_
  | with_reducible refine w_cb ?_
  | with_reducible refine w_test ?_
  | with_reducible refine w_B ?_
  | with_reducible refine w_bl ?_
  | with_reducible refine w_andV ?_
  | with_reducible refine w_orV ?_
  | with_reducible refine w_notV ?_
  | with_reducible refine w_and ?_
  | with_reducible refine w_or ?_
  | with_reducible refine w_not ?_
  | with_reducible refine w_if ?_
  | with_reducible refine w_gnil ?_
  | with_reducible refine w_gcons ?_
  | with_reducible refine iT ?_
  | with_reducible refine iF ?_
  | with_reducible refine w_eqI ?_
  | with_reducible refine w_neI ?_
  | with_reducible refine w_eqS ?_
  | with_reducible refine w_eqIS ?_
  | with_reducible refine w_eqSI ?_)

section
variable {P : Program} {w : World} {K : PySem.W.Frag} {mg : Str → Option Value} {base : Heap} {CF : Addr}
theorem says_int (T : All K mg CF) {H : Hp} {i : Int} : Says K CF H (.int i) true false false false :=
  ⟨_, .base (.int i), kit_ty (by decide +kernel), kit_ty (by decide +kernel), kit_ty (by decide +kernel), T.i_intF⟩
theorem says_bl (T : All K mg CF) {H : Hp} {b : Bool} : Says K CF H (.bl b) false true false false :=
  ⟨_, .base (.bl b), kit_ty (by decide +kernel), kit_ty (by decide +kernel), kit_ty (by decide +kernel), T.i_boolF⟩
theorem says_str (T : All K mg CF) {H : Hp} {x : Str} : Says K CF H (.str x) false false true false :=
  ⟨_, .base (.str x), kit_ty (by decide +kernel), kit_ty (by decide +kernel), kit_ty (by decide +kernel), T.i_strF⟩
theorem says_non (T : All K mg CF) {H : Hp} : Says K CF H .non false false false false :=
  ⟨_, .base .non, kit_ty (by decide +kernel), kit_ty (by decide +kernel), kit_ty (by decide +kernel), T.i_nonF⟩
theorem kit_self (K : PySem.W.Frag) (C : Addr) : PySem.W.kitOne K (.ref C) (.ref C) = some true := by
  unfold PySem.W.kitOne
  rw [if_pos (by simp)]
theorem ty_ins {C : Addr} (c : Cls K C) (y : ClsTy K C) {H : Hp} {a dx : Addr} {fs : List (Str × V)} (h : H a = some (.ins C dx fs)) : TyX K H (.ref a) (.ref C) := .base (.ins h c y.ha y.hn y.htk y.hm)
theorem says_fl (T : All K mg CF) {H : Hp} {a dx : Addr} {fs : List (Str × V)} (h : H a = some (.ins CF dx fs)) : Says K CF H (.ref a) false false false true :=
  ⟨_, ty_ins T.l_Float T.y_Float h, T.i_Fint, T.i_Fbool, T.i_Fstr, kit_self K CF⟩
/-! ### is_plain -/
def spPlain (K : PySem.W.Frag) (CF : Addr) : Sp := fun vs H Q _ => ∃ x pl bo st fl, vs = [x] ∧ Says K CF H x pl bo st fl ∧ Q (.bl ((pl || bo) && !bo)) H
theorem sc_is_plain : FnScope ["number"] ["number"] (defScope s_is_plain) := ⟨rfl, rfl, rfl, by decide +kernel, rfl, by decide +kernel, by decide +kernel⟩
theorem ok_is_plain (T : All K mg CF) : Kn P w K mg base CX0 1 "is_plain" ["number"] (spPlain K CF) := by
  refine T.x_is_plain.kn fun f fd F => ?_
  refine F.ok sc_is_plain (fun vs H Q E h => ?_) (fun cdv A outer s H vs Q E hr h => ?_)
  · obtain ⟨x, pl, bo, st, fl, rfl, _⟩ := h
    rfl
  · obtain ⟨x, pl, bo, st, fl, rfl, ⟨t, ty, i1, i2, i3, i4⟩, q⟩ := h
    refine ⟨_, (pss_one (ps_ret (pe_and (pe_callB call_isi (by rfl) T.b_isinstance boot_isinstance (pa_cons (pv 0) (pa_cons (pe_bltn (by rfl) T.b_int boot_int (rty _)) pa_nil))) (pe_one (pe_not (pe_callB call_isi (by rfl) T.b_isinstance boot_isinstance (pa_cons (pv 0) (pa_cons (pe_bltn (by rfl) T.b_bool boot_bool (rty _)) pa_nil)))))))), ?_⟩
    repeat walk_at "rd"
    refine w_isi (.ty "int") ty i1 ?_
    repeat walk_at "rd"
    refine iB (fun e => ?_) (fun e => ?_)
    · repeat walk_at "rd"
      refine w_isi (.ty "bool") ty i2 ?_
      repeat walk_at "rd"
      rw [e] at q
      exact q
    · repeat walk_at "rd"
      rw [e] at q
      exact q
/-! ### reduced -/
def redV : V → Int → V × Int
  | .int t, p => (.int (red t p).1, (red t p).2)
  | v, _ => (v, 0)
def spReduced : Sp := fun vs H Q _ => ∃ tv p, vs = [tv, .int p] ∧ ((∃ t, tv = .int t ∧ 0 ≤ t) ∨ tv = .str "inf" ∨ tv = .str "nan") ∧
  ∀ q H', Same H H' → H' q = some (.tup [(redV tv p).1, .int (redV tv p).2]) → Q (.ref q) H'
theorem sc_reduced : FnScope ["top", "power", "less"] ["top", "power"] (defScope s_reduced) := ⟨rfl, rfl, rfl, by decide +kernel, rfl, by decide +kernel, by decide +kernel⟩
theorem ok_reduced (T : All K mg CF) : Kn P w K mg base CX0 1 "reduced" ["top", "power"] spReduced := by
  refine T.x_reduced.kn fun f fd F => ?_
  refine F.ok sc_reduced (fun vs H Q E h => ?_) (fun cdv A outer s H vs Q E hr h => ?_)
  · obtain ⟨tv, p, rfl, _⟩ := h
    rfl
  · obtain ⟨tv, p, rfl, c, q⟩ := h
    refine ⟨_, (pss_cons (ps_if (PW.pt (pw_or (pt_cmpR op_in_seq (pv 0) (pe_tup (pa_cons pe_str (pa_cons pe_str pa_nil))) rfl) (pw_or1 (pt_cmpR op_eq (pv 0) pe_int (nomark _))))) (pss_one (ps_ret (pe_tup (pa_cons (pv 0) (pa_cons pe_int pa_nil))))) pss_nil)
      (pss_cons (ps_set (i := 2) sc_reduced.nd rfl (Or.inl rfl) (pe_op op_sub (pe_bits (pe_op op_and (pv 0) (pe_op op_sub pe_int (pv 0)))) pe_int))
      (pss_one (ps_ret (pe_tup (pa_cons (pe_op op_shr (pv 0) (pv 2)) (pa_cons (pe_op op_add (pv 1) (pv 2)) pa_nil))))))), ?_⟩
    repeat walk_at "rd"
    refine w_tup2 fun a1 H1 s1 n1 h1 => ?_
    rcases c with ⟨t, rfl, ht⟩ | rfl | rfl
    · refine w_in h1 rfl rfl ?_
      repeat walk_at "rd"
      refine iF ?_
      repeat walk_at "rd"
      refine iD (fun z => ?_) (fun z => ?_)
      · repeat walk_at "rd"
        refine w_tup2 fun a2 H2 s2 n2 h2 => ?_
        repeat walk_at "rd"
        refine q a2 H2 (s1.trans s2) ?_
        subst z
        show H2 a2 = some (.tup [.int (red 0 p).1, .int (red 0 p).2])
        rw [red_zero]
        exact h2
      · repeat walk_at "rd"
        refine w_I (by obtain ⟨k, m, _, _, e⟩ := less_spec (t := t) (by omega); show 0 ≤ less t; omega) ?_
        repeat walk_at "rd"
        refine w_tup2 fun a2 H2 s2 n2 h2 => ?_
        repeat walk_at "rd"
        refine q a2 H2 (s1.trans s2) ?_
        show H2 a2 = some (.tup [.int (red t p).1, .int (red t p).2])
        unfold red
        rw [if_neg z]
        exact h2
    all_goals
      refine w_in h1 rfl rfl ?_
      repeat walk_at "rd"
      refine iT ?_
      repeat walk_at "rd"
      refine w_tup2 fun a2 H2 s2 n2 h2 => ?_
      repeat walk_at "rd"
      exact q a2 H2 (s1.trans s2) h2
/-! ### fits -/
def spFits : Sp := fun vs H Q _ => ∃ t p, vs = [.int t, .int p] ∧ Q (.bl (fitsB t p)) H
theorem sc_fits : FnScope ["top", "power"] ["top", "power"] (defScope s_fits) := ⟨rfl, rfl, rfl, by decide +kernel, rfl, by decide +kernel, by decide +kernel⟩
theorem ok_fits (T : All K mg CF) : Kn P w K mg base CX0 1 "fits" ["top", "power"] spFits := by
  refine T.x_fits.kn fun f fd F => ?_
  refine F.ok sc_fits (fun vs H Q E h => ?_) (fun cdv A outer s H vs Q E hr h => ?_)
  · obtain ⟨t, p, rfl, _⟩ := h
    rfl
  · obtain ⟨t, p, rfl, q⟩ := h
    refine ⟨_, (pss_one (ps_ret (pe_or (pe_and (pe_cmpR op_lt (pv 0) (pgE "ROOM" T.c_ROOM) (nomark _)) (pe_and (pe_cmpR op_ge (pv 1) (pgE "LOWEST" T.c_LOWEST) (nomark _)) (pe_one (pe_cmpR op_le (pe_op op_add (pe_bits (pv 0)) (pv 1)) (pgE "TOO_GREAT" T.c_TOO_GREAT) (nomark _))))) (pe_one (pe_cmpR op_eq (pv 0) pe_int (nomark _)))))), ?_⟩
    unfold fitsB at q
    repeat walk_at "rd"
    refine iD (fun c1 => ?_) (fun c1 => ?_)
    · rw [decide_eq_true c1, Bool.true_and] at q
      repeat walk_at "rd"
      refine iD (fun c2 => ?_) (fun c2 => ?_)
      · rw [decide_eq_true c2, Bool.true_and] at q
        repeat walk_at "rd"
        refine iD (fun c3 => ?_) (fun c3 => ?_)
        · rw [decide_eq_true (show bits t + p ≤ 1024 from c3), Bool.true_or] at q
          repeat walk_at "rd"
          exact q
        · rw [decide_eq_false (show ¬ bits t + p ≤ 1024 from c3), Bool.false_or] at q
          repeat walk_at "rd"
          exact q
      · rw [decide_eq_false c2, Bool.false_and, Bool.false_or] at q
        repeat walk_at "rd"
        exact q
    · rw [decide_eq_false c1, Bool.false_and, Bool.false_or] at q
      repeat walk_at "rd"
      exact q
/-! ### sign_of -/
def spSign : Sp := fun vs H Q _ => ∃ b, vs = [.bl b] ∧ Q (.int (if b = true then -1 else 1)) H
theorem sc_sign_of : FnScope ["is_negative"] ["is_negative"] (defScope s_sign_of) := ⟨rfl, rfl, rfl, by decide +kernel, rfl, by decide +kernel, by decide +kernel⟩
theorem ok_sign_of (T : All K mg CF) : Kn P w K mg base CX0 1 "sign_of" ["is_negative"] spSign := by
  refine T.x_sign_of.kn fun f fd F => ?_
  refine F.ok sc_sign_of (fun vs H Q E h => ?_) (fun cdv A outer s H vs Q E hr h => ?_)
  · obtain ⟨b, rfl, _⟩ := h
    rfl
  · obtain ⟨b, rfl, q⟩ := h
    refine ⟨_, (pss_one (ps_ret (pe_ifExp (pt_val (pv 0)) (pe_un un_neg pe_int) pe_int))), ?_⟩
    repeat walk_at "rd"
    cases b with
    | true =>
      refine iT ?_
      repeat walk_at "rd"
      exact q
    | false =>
      refine iF ?_
      repeat walk_at "rd"
      exact q
/-! ### Float(sign, top, power) -/
/-- the arguments that make the float f -/
def Arg (s : Int) (tv : V) (p : Int) (f : Fl) : Prop :=
  (∃ t, tv = .int t ∧ 0 ≤ t ∧ (s = 1 ∨ s = -1) ∧ fitsB (red t p).1 (red t p).2 = true ∧ f = .fin s (red t p).1 (red t p).2) ∨
  (tv = .str "inf" ∧ p = 0 ∧ (s = 1 ∨ s = -1) ∧ f = .inf s) ∨ (tv = .str "nan" ∧ p = 0 ∧ s = 1 ∧ f = .nan)
theorem Arg.redV {s p : Int} {tv : V} {f : Fl} (a : Arg s tv p f) : f.s = s ∧ f.t = (redV tv p).1 ∧ f.p = (redV tv p).2 := by
  rcases a with ⟨t, rfl, _, _, _, rfl⟩ | ⟨rfl, _, _, rfl⟩ | ⟨rfl, _, rfl, rfl⟩ <;> exact ⟨rfl, rfl, rfl⟩
theorem Arg.ok {s p : Int} {tv : V} {f : Fl} (a : Arg s tv p f) : f.ok := by
  rcases a with ⟨t, rfl, h0, hs, hf, rfl⟩ | ⟨rfl, _, hs, rfl⟩ | ⟨rfl, _, rfl, rfl⟩
  · by_cases z : t = 0
    · subst z
      rw [red_zero]
      exact ⟨hs, by decide, by decide, fun _ => rfl, fun h => absurd rfl h⟩
    · obtain ⟨k, m, hm, e, r⟩ := red_spec (t := t) (by omega) p
      rw [r] at hf ⊢
      unfold fitsB at hf
      have z2 : ¬ 2 * m + 1 = 0 := by omega
      rw [decide_eq_false z2, Bool.or_false, Bool.and_eq_true, Bool.and_eq_true, decide_eq_true_eq, decide_eq_true_eq, decide_eq_true_eq] at hf
      exact ⟨hs, by omega, hf.1, fun h => absurd h z2, fun _ => ⟨hf.2.1, hf.2.2, by omega⟩⟩
  · exact hs
  · exact trivial
def spInit (C : Addr) : Sp := fun vs H Q _ => ∃ x dx s tv p f, vs = [.ref x, .int s, tv, .int p] ∧ H x = some (.ins C dx []) ∧ Arg s tv p f ∧
  ∀ H', (∀ b o, b ≠ x → H b = some o → H' b = some o) → H' x = some (.ins C dx (flds f.s f.t f.p)) → Q .non H'
theorem u_plain_int (T : All K mg CF) {i : Int} {H : Hp} {Q : VK} {E : XK} (q : Q (.bl true) H) : spPlain K CF ([V.int i] ++ []) H Q E :=
  ⟨.int i, true, false, false, false, rfl, says_int T, q⟩
theorem u_reduced {tv : V} {p : Int} {H : Hp} {Q : VK} {E : XK} (c : (∃ t, tv = .int t ∧ 0 ≤ t) ∨ tv = .str "inf" ∨ tv = .str "nan") (q : ∀ a H', Same H H' → H' a = some (.tup [(redV tv p).1, .int (redV tv p).2]) → Q (.ref a) H') :
    spReduced ([tv, V.int p] ++ []) H Q E := ⟨tv, p, rfl, c, q⟩
theorem u_fits {t p : Int} {H : Hp} {Q : VK} {E : XK} (q : Q (.bl (fitsB t p)) H) : spFits ([V.int t, V.int p] ++ []) H Q E := ⟨t, p, rfl, q⟩
theorem w_gFld {to : TE} {f : Str} {v : V} {σ : L2.St} {H : Hp} {Q : L2.St → Hp → Prop} (h : to σ H fun x H1 => ∃ a C dx fs, x = .ref a ∧ H1 a = some (.ins C dx fs) ∧ Cls K C ∧ NoAttr K C f ∧ fs.length < 1000 ∧ Q σ (upd H1 a (.ins C dx (putF f v fs)))) : gFld K to f v σ H Q := h
theorem putF_s (s : Int) : putF "sign" (.int s) [] = [(("sign" : Str), V.int s)] := rfl
theorem len_put (f : Str) (v : V) (fs : List (Str × V)) {n : Nat} (h : fs.length < n) (hn : n < 1000) : (putF f v fs).length < 1000 := by
  have := length_putF f v fs
  omega
theorem lenf (s : Int) (t : V) (p : Int) : (flds s t p).length < 1000 := by
  unfold flds
  have a := length_putF "power" (.int p) (putF "top" t (putF "sign" (.int s) []))
  have b := length_putF "top" t (putF "sign" (.int s) [])
  have c := length_putF "sign" (.int s) []
  simp at c
  omega
theorem sc_Float_init : FnScope ["self", "sign", "top", "power"] ["self", "sign", "top", "power"] (defScope s_Float_init) := ⟨rfl, rfl, rfl, by decide +kernel, rfl, by decide +kernel, by decide +kernel⟩
theorem ok_init (T : All K mg CF) (k_is_plain : Kn P w K mg base CX0 1 "is_plain" ["number"] (spPlain K CF)) (k_reduced : Kn P w K mg base CX0 1 "reduced" ["top", "power"] spReduced) (k_fits : Kn P w K mg base CX0 1 "fits" ["top", "power"] spFits) :
    KnC P w K mg base CX0 2 "Float" CF ["self", "sign", "top", "power"] (spInit CF) := by
  refine T.x_init.kn fun f fd F => ?_
  refine F.ok sc_Float_init (fun vs H Q E h => ?_) (fun cdv A outer s H vs Q E hr h => ?_)
  · obtain ⟨x, dx, s, tv, p, f, rfl, _⟩ := h
    rfl
  · obtain ⟨x, dx, s, tv, p, f, rfl, hx, a, q⟩ := h
    refine ⟨_, (pss_cons (ps_if (PW.pt (pw_or (pt_not (pt_val (pk k_is_plain hr (pa_cons (pv 1) pa_nil)))) (pw_or1 (pt_cmpR op_notIn_seq (pv 1) (pe_tup (pa_cons pe_int (pa_cons (pe_un un_neg pe_int) pa_nil))) rfl)))) (pss_one ps_never) pss_nil)
      (C8.pss_cut (ps_if (PW.pt (pw_and (pt_val (pe_callB call_isi (by rfl) T.b_isinstance boot_isinstance (pa_cons (pv 2) (pa_cons (pe_bltn (by rfl) T.b_str boot_str (rty _)) pa_nil)))) (pw_and1 (pt_cmpR op_in_seq (pv 2) (pe_tup (pa_cons pe_str (pa_cons pe_str pa_nil))) rfl)))) (pss_cons (ps_if (PW.pt (pw_and (pt_cmpR op_eq (pv 2) pe_str (nomark _)) (pw_and1 (pt_cmpR op_eq (pv 1) (pe_un un_neg pe_int) (nomark _))))) (pss_one ps_never) pss_nil)
      (pss_one (ps_if (PW.pt (pw_or (pt_not (pt_val (pk k_is_plain hr (pa_cons (pv 3) pa_nil)))) (pw_or1 (pt_cmpR op_ne (pv 3) pe_int (nomark _))))) (pss_one ps_never) pss_nil))) (pss_one (ps_if (PW.pt (pw_or (pt_not (pt_val (pk k_is_plain hr (pa_cons (pv 2) pa_nil)))) (pw_or1 (pt_cmpR op_lt (pv 2) pe_int (nomark _))))) (pss_one ps_never) (pss_one (ps_if (pt_not (pt_val (pk k_is_plain hr (pa_cons (pv 3) pa_nil)))) (pss_one ps_never) pss_nil)))))
      (pss_cons (ps_fld (pv 0) (pv 1) rfl)
      (pss_cons (ps_asg (pk k_reduced hr (pa_cons (pv 2) (pa_cons (pv 3) pa_nil))) (pg_tup (by rfl) (pgs_cons (pg_fld (pv 0)) (pgs_cons (pg_fld (pv 0)) pgs_nil))))
      (pss_one (ps_if (PW.pt (pw_and (pt_cmpR op_notIn_seq (pe_fld (pv 0) rfl) (pe_tup (pa_cons pe_str (pa_cons pe_str pa_nil))) rfl) (pw_and1 (pt_not (pt_val (pk k_fits hr (pa_cons (pe_fld (pv 0) rfl) (pa_cons (pe_fld (pv 0) rfl) pa_nil)))))))) (pss_one ps_never) pss_nil)))))), ?_⟩
    have hs : s = 1 ∨ s = -1 := by rcases a with ⟨t, _, _, h, _, _⟩ | ⟨_, _, h, _⟩ | ⟨_, _, h, _⟩ <;> first | exact h | exact .inl h
    repeat walk_at "rd"
    refine u_plain_int T ?_
    repeat walk_at "rd"
    refine iF ?_
    repeat walk_at "rd"
    refine w_tup2 fun a1 H1 s1 n1 h1 => ?_
    refine w_nin h1 rfl rfl ?_
    repeat walk_at "rd"
    have e1 : (!inV (V.int s) [V.int 1, V.int (-1)]) = false := by rcases hs with rfl | rfl <;> rfl
    rw [e1]
    refine iF ?_
    repeat walk_at "rd"
    refine w_cut (Mid := fun σ' H' => σ' = start ["self", "sign", "top", "power"] [.ref x, .int s, tv, .int p] ∧ Same H H') ?_ ?_
    · repeat walk_at "rd"
      rcases a with ⟨t, rfl, h0, _, hf, rfl⟩ | ⟨rfl, rfl, _, rfl⟩ | ⟨rfl, rfl, rfl, rfl⟩
      · refine w_isi (.ty "str") (.base (.int t)) (kit_ty (b := "str") (r := false) (by decide +kernel)) ?_
        repeat walk_at "rd"
        refine u_plain_int T ?_
        repeat walk_at "rd"
        refine iF ?_
        repeat walk_at "rd"
        refine iD (fun z => by omega) (fun _ => ?_)
        repeat walk_at "rd"
        refine u_plain_int T ?_
        repeat walk_at "rd"
        refine iF ?_
        repeat walk_at "rd"
        exact ⟨rfl, s1⟩
      · refine w_isi (.ty "str") (.base (.str _)) (kit_ty (b := "str") (r := true) (by decide +kernel)) ?_
        repeat walk_at "rd"
        refine w_tup2 fun a2 H2 s2 n2 h2 => ?_
        refine w_in h2 rfl rfl ?_
        repeat walk_at "rd"
        refine iT ?_
        repeat walk_at "rd"
        refine iD (fun z => absurd z (by decide +kernel)) (fun _ => ?_)
        repeat walk_at "rd"
        refine u_plain_int T ?_
        repeat walk_at "rd"
        refine iF ?_
        repeat walk_at "rd"
        refine iN (fun z => absurd rfl z) (fun _ => ?_)
        repeat walk_at "rd"
        exact ⟨rfl, s1.trans s2⟩
      · refine w_isi (.ty "str") (.base (.str _)) (kit_ty (b := "str") (r := true) (by decide +kernel)) ?_
        repeat walk_at "rd"
        refine w_tup2 fun a2 H2 s2 n2 h2 => ?_
        refine w_in h2 rfl rfl ?_
        repeat walk_at "rd"
        refine iT ?_
        repeat walk_at "rd"
        refine iD (fun _ => ?_) (fun z => absurd rfl z)
        repeat walk_at "rd"
        refine iD (fun z => absurd z (by decide)) (fun _ => ?_)
        repeat walk_at "rd"
        refine u_plain_int T ?_
        repeat walk_at "rd"
        refine iF ?_
        repeat walk_at "rd"
        refine iN (fun z => absurd rfl z) (fun _ => ?_)
        repeat walk_at "rd"
        exact ⟨rfl, s1.trans s2⟩
    · rintro σ' H3 ⟨rfl, s3⟩
      obtain ⟨e1, e2, e3⟩ := a.redV
      have hx3 := s3 _ _ hx
      repeat walk_at "rd"
      refine w_sfI hx3 T.l_Float T.n_sign (by decide) ?_
      repeat walk_at "rd"
      refine u_reduced (by rcases a with ⟨t, rfl, h0, _⟩ | ⟨rfl, _⟩ | ⟨rfl, _⟩ <;> first | exact .inl ⟨_, rfl, h0⟩ | exact .inr (.inl rfl) | exact .inr (.inr rfl)) fun a4 H4 s4 h4 => ?_
      have hx4 : H4 x = some (.ins CF dx (putF "sign" (.int s) [])) := s4 _ _ upd_same
      refine w_gtup h4 rfl ?_
      repeat walk_at "rd"
      refine w_gFld ?_
      repeat walk_at "rd"
      refine w_sfI hx4 T.l_Float T.n_top (by show 1 < 1000; decide) ?_
      repeat walk_at "rd"
      refine w_gFld ?_
      repeat walk_at "rd"
      refine w_sfI upd_same T.l_Float T.n_power (len_put _ _ _ (n := 2) (by show 1 < 2; decide) (by decide)) ?_
      repeat walk_at "rd"
      rw [upd_upd]
      have ef : (putF "power" (.int (redV tv p).2) (putF "top" (redV tv p).1 (putF "sign" (.int s) []))) = flds f.s f.t f.p := by rw [e1, e2, e3]; rfl
      rw [ef]
      generalize eH5 : upd H4 x (.ins CF dx (flds f.s f.t f.p)) = H5
      have hx5 : H5 x = some (.ins CF dx (flds f.s f.t f.p)) := by rw [← eH5]; exact upd_same
      have k5 : ∀ b o, b ≠ x → H b = some o → H5 b = some o := fun b o hb e => by
        rw [← eH5, upd_ne hb]
        exact s4 _ _ (by rw [upd_ne hb]; exact s3 _ _ e)
      refine w_fldI hx5 T.l_Float T.n_top (flds_t _ _ _) ?_
      repeat walk_at "rd"
      refine w_tup2 fun a6 H6 s6 n6 h6 => ?_
      have hx6 := s6 _ _ hx5
      have k6 : ∀ b o, b ≠ x → H b = some o → H6 b = some o := fun b o hb e => s6 _ _ (k5 b o hb e)
      rcases a with ⟨t, rfl, h0, _, hf, rfl⟩ | ⟨rfl, rfl, _, rfl⟩ | ⟨rfl, rfl, rfl, rfl⟩
      · refine w_nin h6 rfl rfl ?_
        repeat walk_at "rd"
        refine iT ?_
        repeat walk_at "rd"
        refine w_fldI hx6 T.l_Float T.n_top (flds_t _ _ _) ?_
        repeat walk_at "rd"
        refine w_fldI hx6 T.l_Float T.n_power (flds_p _ _ _) ?_
        repeat walk_at "rd"
        refine u_fits ?_
        repeat walk_at "rd"
        show if (!fitsB (red t p).1 (red t p).2) = true then _ else _
        rw [hf]
        refine iF ?_
        repeat walk_at "rd"
        exact q H6 k6 hx6
      all_goals
        refine w_nin h6 rfl rfl ?_
        repeat walk_at "rd"
        refine iF ?_
        refine iF ?_
        repeat walk_at "rd"
        exact q H6 k6 hx6
/-- Float(s, tv, p) makes f -/
theorem u_Float {s p : Int} {tv : V} {f : Fl} {H : Hp} {Q : VK} {E : XK} (a : Arg s tv p f) (q : ∀ x H', Same H H' → H x = none → FlAt CF H' x f → Q (.ref x) H') : MakeK CF (spInit CF) [.int s, tv, .int p] H Q E := by
  intro x dx hx hdx ne
  refine ⟨x, dx, s, tv, p, f, rfl, upd_same, a, fun H' k hx' => ⟨rfl, q x H' (fun b o e => k b o (ne_of_none e hx) ?_) hx ⟨dx, hx'⟩⟩⟩
  rw [upd_ne (ne_of_none e hx), upd_ne (ne_of_none e hdx)]
  exact e
end
end Nu

set_option Elab.async false
set_option linter.all false
set_option maxRecDepth 100000
set_option autoImplicit false
set_option maxHeartbeats 4000000
namespace Nu
open PySem PySem.Spec PyProof.Rows L2 Rd
local macro_rules | `(tactic| walk_at "hp") => `(tactic| first | assumption | (refine same_get ?sm ?_; (case sm => assumption); walk_at "hp"))
local macro_rules | `(tactic| walk_at "rd") => `(tactic| first
  | with_reducible refine w_nx ?_
  | with_reducible refine w_rt ?_
  | with_reducible refine w_bk ?_
  | with_reducible refine w_ct ?_
  | with_reducible refine w_seq ?_
  | with_reducible refine w_next ?_
  | with_reducible refine w_ret ?_
  | with_reducible refine w_ifS ?_
  | with_reducible refine w_asg ?_
  | with_reducible refine w_name ?_
  | with_reducible refine w_par ?_
  | with_reducible refine w_parI ?_
  | with_reducible refine w_ii ?_
  | with_reducible refine w_i1 ?_
  | with_reducible refine w_drop ?_
  | with_reducible refine w_sFld ?_
  | ((with_reducible refine' w_var ?rdh ?_); (case rdh => exact rfl))
  | with_reducible refine w_c ?_
  | with_reducible refine w_op ?_
  | with_reducible refine w_un ?_
  | with_reducible refine w_I0 ?_
  | with_reducible refine w_U ?_
  | with_reducible refine w_bits ?_
  | with_reducible refine w_bitsI ?_
  | with_reducible refine w_tup ?_
  | with_reducible refine w_lst ?_
  | with_reducible refine w_nil ?_
  | with_reducible refine w_cons ?_
  | with_reducible refine w_fld ?_
  | with_reducible refine w_call ?_
  | with_reducible refine w_make ?_
  | with_reducible refine w_makeD ?_
  | with_reducible refine w_nn ?_
  | with_reducible refine w_subB ?_
  | with_reducible refine w_meth ?_
  | with_reducible refine w_cb ?_
  | with_reducible refine w_test ?_
  | with_reducible refine w_B ?_
  | with_reducible refine w_bl ?_
  | with_reducible refine w_andV ?_
  | with_reducible refine w_orV ?_
  | with_reducible refine w_notV ?_
  | with_reducible refine w_and ?_
  | with_reducible refine w_or ?_
  | with_reducible refine w_not ?_
  | with_reducible refine w_if ?_
  | with_reducible refine w_gnil ?_
  | with_reducible refine w_gcons ?_
  | with_reducible refine iT ?_
  | with_reducible refine iF ?_
  | with_reducible refine w_eqI ?_
  | with_reducible refine w_neI ?_
  | with_reducible refine w_eqS ?_
  | with_reducible refine w_eqIS ?_
  | with_reducible refine w_eqSI ?_)

section
variable {P : Program} {w : World} {K : PySem.W.Frag} {mg : Str → Option Value} {base : Heap} {CF : Addr}
/-- a new float -/
def NewF (CF : Addr) (f : Fl) (H : Hp) (Q : VK) : Prop := ∀ x H', Same H H' → H x = none → FlAt CF H' x f → Q (.ref x) H'
/-! ### infinity -/
def spInf (CF : Addr) : Sp := fun vs H Q _ => ∃ s, vs = [.int s] ∧ (s = 1 ∨ s = -1) ∧ NewF CF (.inf s) H Q
theorem sc_infinity : FnScope ["sign"] ["sign"] (defScope s_infinity) := ⟨rfl, rfl, rfl, by decide +kernel, rfl, by decide +kernel, by decide +kernel⟩
theorem ok_infinity (T : All K mg CF) (k_Float_init : KnC P w K mg base CX0 2 "Float" CF ["self", "sign", "top", "power"] (spInit CF)) : Kn P w K mg base CX0 4 "infinity" ["sign"] (spInf CF) := by
  refine T.x_infinity.kn fun f fd F => ?_
  refine F.ok sc_infinity (fun vs H Q E h => ?_) (fun cdv A outer s H vs Q E hr h => ?_)
  · obtain ⟨s, rfl, _⟩ := h
    rfl
  · obtain ⟨s, rfl, hs, q⟩ := h
    refine ⟨_, (pss_one (ps_ret (pkC k_Float_init hr (pa_cons (pv 0) (pa_cons pe_str (pa_cons pe_int pa_nil)))))), ?_⟩
    repeat walk_at "rd"
    refine u_Float (.inr (.inl ⟨rfl, rfl, hs, rfl⟩)) fun x H' s1 n1 h1 => ?_
    exact q x H' s1 n1 h1
/-! ### nearest -/
def nearM (s t b : Int) : Fl := if t = 0 then .fin s 0 0 else if 1024 < bits (wh t b) + p2 t b then .inf s else .fin s (red (wh t b) (p2 t b)).1 (red (wh t b) (p2 t b)).2
def spNear (CF : Addr) : Sp := fun vs H Q _ => ∃ s t b, vs = [.int s, .int t, .int b] ∧ (s = 1 ∨ s = -1) ∧ 0 ≤ t ∧ 0 < b ∧ bits t ≤ 2200 ∧ bits b ≤ 2200 ∧ NewF CF (nearM s t b) H Q
theorem cshl {i j : Int} (h : bits i ≤ 10000) (h0 : 0 ≤ j) (h1 : j ≤ 10000) : CShl i j := by
  refine ⟨h0, ?_⟩
  have e : (2 : Int) ^ 27 = 134217728 := by decide
  rw [e]
  have : bits i = (Builtin.Int.intBits i : Nat) := rfl
  omega
theorem cdivw {i j : Int} (h : 0 < j) (hb : bits j ≤ 8000) : CDivW i j := by
  have := (bits_le (n := j) (k := 8000)).1 (by omega)
  exact wide_div h this (by decide) (by decide)
theorem cdivp {i j : Int} (h : 0 < j) (hb : bits i ≤ 4000) : CDivP i j := by
  refine divp_ok h ?_
  have : bits i = (Builtin.Int.intBits i : Nat) := rfl
  omega
theorem cmulx {i j : Int} (h : bits i ≤ 100000) (hb : bits j ≤ 100000) : CMulX i j := by
  unfold CMulX
  have : bits i = (Builtin.Int.intBits i : Nat) := rfl
  have : bits j = (Builtin.Int.intBits j : Nat) := rfl
  omega
theorem sc_nearest : FnScope ["sign", "top", "bottom", "power", "whole", "rest"] ["sign", "top", "bottom"] (defScope s_nearest) := ⟨rfl, rfl, rfl, by decide +kernel, rfl, by decide +kernel, by decide +kernel⟩
theorem ok_nearest (T : All K mg CF) (k_Float_init : KnC P w K mg base CX0 2 "Float" CF ["self", "sign", "top", "power"] (spInit CF)) (k_infinity : Kn P w K mg base CX0 4 "infinity" ["sign"] (spInf CF)) :
    Kn P w K mg base CX0 5 "nearest" ["sign", "top", "bottom"] (spNear CF) := by
  refine T.x_nearest.kn fun f fd F => ?_
  refine F.ok sc_nearest (fun vs H Q E h => ?_) (fun cdv A outer s H vs Q E hr h => ?_)
  · obtain ⟨s, t, b, rfl, _⟩ := h
    rfl
  · obtain ⟨s, t, b, rfl, hs, ht, hb, bt, bb, q⟩ := h
    refine ⟨_, (pss_cons (ps_if (pt_cmpR op_eq (pv 1) pe_int (nomark _)) (pss_one (ps_ret (pkC k_Float_init hr (pa_cons (pv 0) (pa_cons pe_int (pa_cons pe_int pa_nil)))))) pss_nil)
      (pss_cons (ps_set (i := 3) sc_nearest.nd rfl (Or.inl rfl) (pe_callB (call_max2 rfl) (by rfl) T.b_max boot_max (pa_cons (pe_op op_sub (pe_op op_sub (pe_bits (pv 1)) (pe_bits (pv 2))) pe_int) (pa_cons (pgE "LOWEST" T.c_LOWEST) pa_nil))))
      (C8.pss_cut (ps_if (pt_cmpR op_lt (pv 3) pe_int (nomark _)) (pss_one (ps_set (i := 1) sc_nearest.nd rfl (Or.inl rfl) (pe_op op_shlW (pv 1) (pe_op op_sub pe_int (pv 3))))) (pss_one (ps_set (i := 2) sc_nearest.nd rfl (Or.inl rfl) (pe_op op_shlW (pv 2) (pv 3)))))
      (C8.pss_cut (ps_if (pt_cmpR op_ge (pe_op op_fdivW (pv 1) (pv 2)) (pgE "ROOM" T.c_ROOM) (nomark _)) (pss_cons (ps_set (i := 2) sc_nearest.nd rfl (Or.inl rfl) (pe_op op_shlW (pv 2) pe_int))
      (pss_one (ps_set (i := 3) sc_nearest.nd rfl (Or.inl rfl) (pe_op op_add (pv 3) pe_int)))) pss_nil)
      (pss_cons (ps_asg (pe_callB call_divmodW (by rfl) T.b_divmod boot_divmod (pa_cons (pv 1) (pa_cons (pv 2) pa_nil))) (pg_tup (by rfl) (pgs_cons (pg_name (i := 4) sc_nearest.nd rfl (Or.inl rfl)) (pgs_cons (pg_name (i := 5) sc_nearest.nd rfl (Or.inl rfl)) pgs_nil))))
      (C8.pss_cut (ps_if (PW.pt (pw_or (pt_cmpR op_gt (pe_op op_mulX pe_int (pv 5)) (pv 2) (nomark _)) (pw_or1 (PW.pt (pw_and (pt_cmpR op_eq (pe_op op_mulX pe_int (pv 5)) (pv 2) (nomark _)) (pw_and1 (pt_cmpR op_eq (pe_op op_and (pv 4) pe_int) pe_int (nomark _)))))))) (pss_one (ps_set (i := 4) sc_nearest.nd rfl (Or.inl rfl) (pe_op op_add (pv 4) pe_int))) pss_nil)
      (pss_cons (ps_if (pt_cmpR op_gt (pe_op op_add (pe_bits (pv 4)) (pv 3)) (pgE "TOO_GREAT" T.c_TOO_GREAT) (nomark _)) (pss_one (ps_ret (pk k_infinity hr (pa_cons (pv 0) pa_nil)))) pss_nil)
      (pss_one (ps_ret (pkC k_Float_init hr (pa_cons (pv 0) (pa_cons (pv 4) (pa_cons (pv 3) pa_nil))))))))))))), ?_⟩
    repeat walk_at "rd"
    refine iD (fun z => ?_) (fun z => ?_)
    · repeat walk_at "rd"
      subst z
      refine u_Float (.inl ⟨0, rfl, by decide, hs, by rw [red_zero]; decide, rfl⟩) fun x H' s1 n1 h1 => ?_
      refine q x H' s1 n1 ?_
      unfold nearM
      rw [if_pos rfl]
      rw [red_zero] at h1
      exact h1
    · repeat walk_at "rd"
      rw [show (if (-1074 : Int) > ((Builtin.Int.intBits t : Nat) : Int) - ((Builtin.Int.intBits b : Nat) : Int) - 53 then (-1074 : Int) else ((Builtin.Int.intBits t : Nat) : Int) - ((Builtin.Int.intBits b : Nat) : Int) - 53) = pw t b from rfl]
      have g1 := pw_ge (t := t) (b := b)
      have g2 := pw_le (t := t) (b := b) bt
      repeat walk_at "rd"
      refine w_cut (Mid := fun σ' H' => σ' = [some (.int s), some (.int (t1 t b)), some (.int (b1 t b)), some (.int (pw t b)), none, none] ∧ H' = H) ?_ ?_
      · repeat walk_at "rd"
        refine iD (fun c => ?_) (fun c => ?_)
        · repeat walk_at "rd"
          refine w_I (cshl (by omega) (by omega) (by omega)) ?_
          repeat walk_at "rd"
          refine ⟨?_, rfl⟩
          unfold t1 b1
          rw [if_pos c, if_pos c]
          rfl
        · repeat walk_at "rd"
          refine w_I (cshl (by omega) (by omega) (by omega)) ?_
          repeat walk_at "rd"
          refine ⟨?_, rfl⟩
          unfold t1 b1
          rw [if_neg c, if_neg c]
          rfl
      rintro σ' H' ⟨rfl, rfl⟩
      have h1 := b1_pos (t := t) hb
      have h2 := b2_pos (t := t) hb
      have h3 := b1_bits hb bt bb
      have h4 := b2_bits hb bt bb
      have h5 := t1_bits (b := b) ht bt
      refine w_cut (Mid := fun σ' H'' => σ' = [some (.int s), some (.int (t1 t b)), some (.int (b2 t b)), some (.int (p2 t b)), none, none] ∧ H'' = H') ?_ ?_
      · repeat walk_at "rd"
        refine w_I (cdivw h1 (by omega)) ?_
        repeat walk_at "rd"
        refine iD (fun c => ?_) (fun c => ?_)
        · repeat walk_at "rd"
          refine w_I (cshl (by omega) (by omega) (by omega)) ?_
          repeat walk_at "rd"
          refine ⟨?_, rfl⟩
          unfold b2 p2
          rw [if_pos c, if_pos c]
          rfl
        · repeat walk_at "rd"
          refine ⟨?_, rfl⟩
          unfold b2 p2
          rw [if_neg c, if_neg c]
      rintro σ' H'' ⟨rfl, rfl⟩
      repeat walk_at "rd"
      refine ⟨cdivp h2 (by omega), fun a1 n1 => ?_⟩
      have s1 := same_upd (o := .tup [.int (t1 t b / b2 t b), .int (t1 t b % b2 t b)]) n1
      have e1 := upd_same (H := H'') (a := a1) (o := .tup [.int (t1 t b / b2 t b), .int (t1 t b % b2 t b)])
      generalize upd H'' a1 (.tup [.int (t1 t b / b2 t b), .int (t1 t b % b2 t b)]) = H1 at s1 e1 ⊢
      refine w_gtup e1 rfl ?_
      repeat walk_at "rd"
      rw [show t1 t b / b2 t b = wq t b from rfl, show t1 t b % b2 t b = wr t b from rfl]
      have r0 := wr_nn (t := t) hb
      have r1 := wr_lt (t := t) hb
      have rb : bits (wr t b) ≤ 4401 := Int.le_trans (bits_mono r0 (Int.le_of_lt r1)) h4
      refine w_cut (Mid := fun σ' H'' => σ' = [some (.int s), some (.int (t1 t b)), some (.int (b2 t b)), some (.int (p2 t b)), some (.int (wh t b)), some (.int (wr t b))] ∧ H'' = H1) ?_ ?_
      · have up : goesUp t b → wh t b = wq t b + 1 := fun c => if_pos c
        have dn : ¬ goesUp t b → wh t b = wq t b := fun c => if_neg c
        repeat walk_at "rd"
        refine w_I (cmulx (by decide) (by omega)) ?_
        repeat walk_at "rd"
        refine iD (fun c => ?_) (fun c => ?_)
        · refine iT ?_
          repeat walk_at "rd"
          refine ⟨?_, rfl⟩
          rw [up (.inl c)]
          rfl
        · repeat walk_at "rd"
          refine w_I (cmulx (by decide) (by omega)) ?_
          repeat walk_at "rd"
          refine iD (fun c2 => ?_) (fun c2 => ?_)
          · repeat walk_at "rd"
            refine iD (fun c3 => ?_) (fun c3 => ?_)
            · repeat walk_at "rd"
              refine ⟨?_, rfl⟩
              rw [up (.inr ⟨c2, c3⟩)]
              rfl
            · repeat walk_at "rd"
              refine ⟨?_, rfl⟩
              rw [dn (fun h => h.elim c fun h => c3 h.2)]
              rfl
          · repeat walk_at "rd"
            refine ⟨?_, rfl⟩
            rw [dn (fun h => h.elim c fun h => c2 h.1)]
            rfl
      rintro σ' H3 ⟨rfl, rfl⟩
      repeat walk_at "rd"
      refine iD (fun c => ?_) (fun c => ?_)
      · repeat walk_at "rd"
        refine ⟨s, rfl, hs, fun x H' s2 n2 h2 => ?_⟩
        refine q x H' (s1.trans s2) (s1.free n2) ?_
        unfold nearM
        rw [if_neg z, if_pos c]
        exact h2
      · repeat walk_at "rd"
        refine u_Float (.inl ⟨wh t b, rfl, wh_nn ht hb, hs, wh_fits ht hb (Int.not_lt.mp c), rfl⟩) fun x H' s2 n2 h2 => ?_
        refine q x H' (s1.trans s2) (s1.free n2) ?_
        unfold nearM
        rw [if_neg z, if_neg c]
        exact h2
end
end Nu

set_option Elab.async false
set_option linter.all false
set_option maxRecDepth 100000
set_option autoImplicit false
set_option maxHeartbeats 4000000
namespace Nu
open PySem PySem.Spec PyProof.Rows L2 Rd
local macro_rules | `(tactic| walk_at "hp") => `(tactic| first | assumption | (refine same_get ?sm ?_; (case sm => assumption); walk_at "hp"))
local macro_rules | `(tactic| walk_at "rd") => `(tactic| first
  | with_reducible refine w_nx ?_
  | with_reducible refine w_rt ?_
  | with_reducible refine w_bk ?_
  | with_reducible refine w_ct ?_
  | with_reducible refine w_seq ?_
  | with_reducible refine w_next ?_
  | with_reducible refine w_ret ?_
  | with_reducible refine w_ifS ?_
  | with_reducible refine w_asg ?_
  | with_reducible refine w_name ?_
  | with_reducible refine w_par ?_
  | with_reducible refine w_parI ?_
  | with_reducible refine w_ii ?_
  | with_reducible refine w_i1 ?_
  | with_reducible refine w_drop ?_
  | with_reducible refine w_sFld ?_
  | ((with_reducible refine' w_var ?rdh ?_); (case rdh => exact rfl))
  | with_reducible refine w_c ?_
  | with_reducible refine w_op ?_
  | with_reducible refine w_un ?_
  | with_reducible refine w_I0 ?_
  | with_reducible refine w_U ?_
  | with_reducible refine w_bits ?_
  | with_reducible refine w_bitsI ?_
  | with_reducible refine w_tup ?_
  | with_reducible refine w_lst ?_
  | with_reducible refine w_nil ?_
  | with_reducible refine w_cons ?_
  | with_reducible refine w_fld ?_
  | with_reducible refine w_call ?_
  | with_reducible refine w_make ?_
  | with_reducible refine w_makeD ?_
  | with_reducible refine w_nn ?_
  | with_reducible refine w_subB ?_
  | with_reducible refine w_meth ?_
  | with_reducible refine w_cb ?_
  | with_reducible refine w_test ?_
  | with_reducible refine w_B ?_
  | with_reducible refine w_bl ?_
  | with_reducible refine w_andV ?_
  | with_reducible refine w_orV ?_
  | with_reducible refine w_notV ?_
  | with_reducible refine w_and ?_
  | with_reducible refine w_or ?_
  | with_reducible refine w_not ?_
  | with_reducible refine w_if ?_
  | with_reducible refine w_gnil ?_
  | with_reducible refine w_gcons ?_
  | with_reducible refine iT ?_
  | with_reducible refine iF ?_
  | with_reducible refine w_eqI ?_
  | with_reducible refine w_neI ?_
  | with_reducible refine w_eqS ?_
  | with_reducible refine w_eqIS ?_
  | with_reducible refine w_eqSI ?_)

section
variable {P : Program} {w : World} {K : PySem.W.Frag} {mg : Str → Option Value} {base : Heap} {CF : Addr}
/-! ### is_finite, ratio -/
def Fl.isFin : Fl → Bool
  | .fin _ _ _ => true
  | _ => false
theorem Fl.ty (f : Fl) (K : PySem.W.Frag) (H : Hp) : ∃ t, TyX K H f.t t ∧ PySem.W.kitOne K t (.type "int") = some f.isFin := by
  cases f with
  | fin s t p => exact ⟨_, .base (.int t), kit_ty (r := true) (by decide +kernel)⟩
  | inf s => exact ⟨_, .base (.str _), kit_ty (r := false) (by decide +kernel)⟩
  | nan => exact ⟨_, .base (.str _), kit_ty (r := false) (by decide +kernel)⟩
def spFinite (CF : Addr) : Sp := fun vs H Q _ => ∃ a f, vs = [.ref a] ∧ FlAt CF H a f ∧ Q (.bl f.isFin) H
theorem sc_Float_is_finite : FnScope ["self"] ["self"] (defScope s_Float_is_finite) := ⟨rfl, rfl, rfl, by decide +kernel, rfl, by decide +kernel, by decide +kernel⟩
theorem ok_is_finite (T : All K mg CF) : KnM P w K mg base CX0 1 CF "is_finite" ["self"] (spFinite CF) := by
  refine T.x_is_finite.kn fun f fd F => ?_
  refine F.ok sc_Float_is_finite (fun vs H Q E h => ?_) (fun cdv A outer s H vs Q E hr h => ?_)
  · obtain ⟨a, f, rfl, _⟩ := h
    rfl
  · obtain ⟨a, f, rfl, ⟨dx, h1⟩, q⟩ := h
    refine ⟨_, (pss_one (ps_ret (pe_callB call_isi (by rfl) T.b_isinstance boot_isinstance (pa_cons (pe_fld (pv 0) rfl) (pa_cons (pe_bltn (by rfl) T.b_int boot_int (rty _)) pa_nil))))), ?_⟩
    repeat walk_at "rd"
    refine w_fldI h1 T.l_Float T.n_top (flds_t _ _ _) ?_
    repeat walk_at "rd"
    obtain ⟨t, ty, k⟩ := f.ty K H
    refine w_isi (.ty "int") ty k ?_
    repeat walk_at "rd"
    exact q
/-- top and bottom of a finite float -/
def ratT (s t p : Int) : Int := if p < 0 then s * t else s * (t * 2 ^ p.toNat)
def ratB (p : Int) : Int := if p < 0 then 2 ^ (0 - p).toNat else 1
def spRatio (CF : Addr) : Sp := fun vs H Q _ => ∃ a s t p, vs = [.ref a] ∧ FlAt CF H a (.fin s t p) ∧ (Fl.fin s t p).ok ∧
  ∀ q H', Same H H' → H q = none → H' q = some (.tup [.int (ratT s t p), .int (ratB p)]) → Q (.ref q) H'
theorem ok_bounds {s t p : Int} (h : (Fl.fin s t p).ok) : bits s ≤ 1 ∧ bits t ≤ 53 ∧ -1074 ≤ p ∧ p ≤ 1023 ∧ 0 ≤ t ∧ bits t + p ≤ 1024 := by
  obtain ⟨hs, h0, h1, h2, h3⟩ := h
  have b1 : bits s ≤ 1 := by rcases hs with rfl | rfl <;> decide
  have b2 : bits t ≤ ((53 : Nat) : Int) := (bits_lt_pow h0).2 (by rw [← pow53]; exact h1)
  by_cases z : t = 0
  · have := h2 z
    subst z
    rw [bits_zero]
    omega
  · obtain ⟨h4, h5, h6⟩ := h3 z
    have : 0 < Builtin.Int.intBits t := bits_pos (by omega)
    have e : bits t = (Builtin.Int.intBits t : Nat) := rfl
    omega
theorem sc_Float_ratio : FnScope ["self"] ["self"] (defScope s_Float_ratio) := ⟨rfl, rfl, rfl, by decide +kernel, rfl, by decide +kernel, by decide +kernel⟩
theorem ok_ratio (T : All K mg CF) : KnM P w K mg base CX0 1 CF "ratio" ["self"] (spRatio CF) := by
  refine T.x_ratio.kn fun f fd F => ?_
  refine F.ok sc_Float_ratio (fun vs H Q E h => ?_) (fun cdv A outer s H vs Q E hr h => ?_)
  · obtain ⟨a, s, t, p, rfl, _⟩ := h
    rfl
  · obtain ⟨a, s, t, p, rfl, ⟨dx, h1⟩, ok, q⟩ := h
    obtain ⟨bs, bt, p1, p2, t0, tp⟩ := ok_bounds ok
    refine ⟨_, (pss_cons (ps_if (pt_cmpR op_lt (pe_fld (pv 0) rfl) pe_int (nomark _)) (pss_one (ps_ret (pe_tup (pa_cons (pe_op op_mulX (pe_fld (pv 0) rfl) (pe_fld (pv 0) rfl)) (pa_cons (pe_op op_shlW pe_int (pe_op op_sub pe_int (pe_fld (pv 0) rfl))) pa_nil))))) pss_nil)
      (pss_one (ps_ret (pe_tup (pa_cons (pe_op op_mulX (pe_fld (pv 0) rfl) (pe_op op_shlW (pe_fld (pv 0) rfl) (pe_fld (pv 0) rfl))) (pa_cons pe_int pa_nil)))))), ?_⟩
    repeat walk_at "rd"
    refine w_fldI h1 T.l_Float T.n_power (flds_p _ _ _) ?_
    repeat walk_at "rd"
    refine iD (fun c => ?_) (fun c => ?_)
    · have c' : p < 0 := c
      repeat walk_at "rd"
      refine w_fldI h1 T.l_Float T.n_sign (flds_s _ _ _) ?_
      repeat walk_at "rd"
      refine w_fldI h1 T.l_Float T.n_top (flds_t _ _ _) ?_
      refine w_I (cmulx (i := s) (j := t) (by omega) (by omega)) ?_
      repeat walk_at "rd"
      refine w_fldI h1 T.l_Float T.n_power (flds_p _ _ _) ?_
      repeat walk_at "rd"
      refine w_I (cshl (i := 1) (j := 0 - p) (by decide) (by omega) (by omega)) ?_
      repeat walk_at "rd"
      refine w_tup2 fun a2 H2 s2 n2 h2 => ?_
      repeat walk_at "rd"
      refine q a2 H2 s2 n2 ?_
      rw [h2]
      unfold ratT ratB
      rw [if_pos c', if_pos c', Int.one_mul] <;> rfl
    · have c' : ¬ p < 0 := c
      repeat walk_at "rd"
      refine w_fldI h1 T.l_Float T.n_sign (flds_s _ _ _) ?_
      repeat walk_at "rd"
      refine w_fldI h1 T.l_Float T.n_top (flds_t _ _ _) ?_
      repeat walk_at "rd"
      refine w_fldI h1 T.l_Float T.n_power (flds_p _ _ _) ?_
      refine w_I (cshl (i := t) (j := p) (by omega) (by omega) (by omega)) ?_
      refine w_I (cmulx (i := s) (j := t * 2 ^ p.toNat) (by omega) (by have := bits_mul_pow t0 p.toNat; omega)) ?_
      repeat walk_at "rd"
      refine w_tup2 fun a2 H2 s2 n2 h2 => ?_
      repeat walk_at "rd"
      refine q a2 H2 s2 n2 ?_
      rw [h2]
      unfold ratT ratB
      rw [if_neg c', if_neg c'] <;> rfl
/-- a float is itself; an int of 64 bits the nearest -/
def spToF (K : PySem.W.Frag) (CF : Addr) : Sp := fun vs H Q _ => (∃ a f, vs = [.ref a] ∧ FlAt CF H a f ∧ Q (.ref a) H) ∨
  (∃ i, vs = [.int i] ∧ bits i ≤ 2000 ∧ NewF CF (nearM (if i < 0 then -1 else 1) (if i < 0 then -i else i) 1) H Q)
theorem sc_to_float : FnScope ["number"] ["number"] (defScope s_to_float) := ⟨rfl, rfl, rfl, by decide +kernel, rfl, by decide +kernel, by decide +kernel⟩
theorem ok_to_float (T : All K mg CF) (k_sign_of : Kn P w K mg base CX0 1 "sign_of" ["is_negative"] spSign) (k_nearest : Kn P w K mg base CX0 5 "nearest" ["sign", "top", "bottom"] (spNear CF)) : Kn P w K mg base CX0 6 "to_float" ["number"] (spToF K CF) := by
  refine T.x_to_float.kn fun f fd F => ?_
  refine F.ok sc_to_float (fun vs H Q E h => ?_) (fun cdv A outer s H vs Q E hr h => ?_)
  · rcases h with ⟨a, f, rfl, _⟩ | ⟨i, rfl, _⟩ <;> rfl
  · refine ⟨_, (pss_cons (ps_if (pt_val (pe_callB call_isi (by rfl) T.b_isinstance boot_isinstance (pa_cons (pv 0) (pa_cons (pg "Float" T.g_Float (rref _)) pa_nil)))) (pss_one (ps_ret (pv 0))) pss_nil)
      (pss_one (ps_ret (pk k_nearest hr (pa_cons (pk k_sign_of hr (pa_cons (pe_cmpR op_lt (pv 0) pe_int (nomark _)) pa_nil)) (pa_cons (pe_callB call_abs (by rfl) T.b_abs boot_abs (pa_cons (pv 0) pa_nil)) (pa_cons pe_int pa_nil))))))), ?_⟩
    rcases h with ⟨a, f, rfl, ⟨dx, h1⟩, q⟩ | ⟨i, rfl, hb, q⟩
    · obtain ⟨t, ty, i1, i2, i3, i4⟩ := says_fl T h1
      repeat walk_at "rd"
      refine w_isi (.own CF) ty i4 ?_
      repeat walk_at "rd"
      exact q
    · obtain ⟨t, ty, i1, i2, i3, i4⟩ := says_int (i := i) (H := H) T
      repeat walk_at "rd"
      refine w_isi (.own CF) ty i4 ?_
      repeat walk_at "rd"
      refine ⟨_, rfl, ?_⟩
      repeat walk_at "rd"
      refine ⟨_, _, _, rfl, ?_, ?_, by decide, ?_, by decide, ?_⟩
      · by_cases c : i < 0
        · rw [decide_eq_true c, if_pos rfl]; exact .inr rfl
        · rw [decide_eq_false c, if_neg Bool.false_ne_true]; exact .inl rfl
      · split <;> omega
      · have e : bits (if i < 0 then -i else i) = bits i := by
          split
          · exact congrArg Nat.cast (by unfold Builtin.Int.intBits; simp)
          · rfl
        rw [e]
        omega
      · have e : (if decide (i < 0) = true then (-1 : Int) else 1) = (if i < 0 then -1 else 1) := by
          by_cases c : i < 0
          · rw [decide_eq_true c, if_pos rfl, if_pos c]
          · rw [decide_eq_false c, if_neg Bool.false_ne_true, if_neg c]
        rw [e]
        exact q
theorem lk_fin (s : Int) (t : V) (p : Int) : (flds s t p).lookup ("is_finite" : Str) = none := flds_no s t p (by decide +kernel) (by decide +kernel) (by decide +kernel)
theorem lk_rat (s : Int) (t : V) (p : Int) : (flds s t p).lookup ("ratio" : Str) = none := flds_no s t p (by decide +kernel) (by decide +kernel) (by decide +kernel)
end
end Nu

set_option Elab.async false
set_option linter.all false
set_option maxRecDepth 100000
set_option autoImplicit false
set_option maxHeartbeats 4000000
namespace Nu
open PySem PySem.Spec PyProof.Rows L2 Rd
local macro_rules | `(tactic| walk_at "hp") => `(tactic| first | assumption | (refine same_get ?sm ?_; (case sm => assumption); walk_at "hp"))
local macro_rules | `(tactic| walk_at "rd") => `(tactic| first
  | with_reducible refine w_nx ?_
  | with_reducible refine w_rt ?_
  | with_reducible refine w_bk ?_
  | with_reducible refine w_ct ?_
  | with_reducible refine w_seq ?_
  | with_reducible refine w_next ?_
  | with_reducible refine w_ret ?_
  | with_reducible refine w_ifS ?_
  | with_reducible refine w_asg ?_
  | with_reducible refine w_name ?_
  | with_reducible refine w_par ?_
  | with_reducible refine w_parI ?_
  | with_reducible refine w_ii ?_
  | with_reducible refine w_i1 ?_
  | with_reducible refine w_drop ?_
  | with_reducible refine w_sFld ?_
  | ((with_reducible refine' w_var ?rdh ?_); (case rdh => exact rfl))
  | with_reducible refine w_c ?_
  | with_reducible refine w_op ?_
  | with_reducible refine w_un ?_
  | with_reducible refine w_I0 ?_
  | with_reducible refine w_U ?_
  | with_reducible refine w_bits ?_
  | with_reducible refine w_bitsI ?_
  | with_reducible refine w_tup ?_
  | with_reducible refine w_lst ?_
  | with_reducible refine w_nil ?_
  | with_reducible refine w_cons ?_
  | with_reducible refine w_fld ?_
  | with_reducible refine w_call ?_
  | with_reducible refine w_make ?_
  | with_reducible refine w_makeD ?_
  | with_reducible refine w_nn ?_
  | with_reducible refine w_subB ?_
  | with_reducible refine w_meth ?_
  | with_reducible refine w_cb ?_
  | with_reducible refine w_test ?_
  | with_reducible refine w_B ?_
  | with_reducible refine w_bl ?_
  | with_reducible refine w_andV ?_
  | with_reducible refine w_orV ?_
  | with_reducible refine w_notV ?_
  | with_reducible refine w_and ?_
  | with_reducible refine w_or ?_
  | with_reducible refine w_not ?_
  | with_reducible refine w_if ?_
  | with_reducible refine w_gnil ?_
  | with_reducible refine w_gcons ?_
  | with_reducible refine iT ?_
  | with_reducible refine iF ?_
  | with_reducible refine w_eqI ?_
  | with_reducible refine w_neI ?_
  | with_reducible refine w_eqS ?_
  | with_reducible refine w_eqIS ?_
  | with_reducible refine w_eqSI ?_)

/-! ### numbers -/
inductive Nm where
  | int (i : Int)
  | fl (f : Fl)
def NmAt (CF : Addr) (H : Hp) (x : V) : Nm → Prop
  | .int i => x = .int i ∧ bits i ≤ 70
  | .fl f => ∃ a, x = .ref a ∧ FlAt CF H a f ∧ f.ok
theorem NmAt.same {CF : Addr} {H H' : Hp} {x : V} : ∀ {n : Nm}, NmAt CF H x n → Same H H' → NmAt CF H' x n
  | .int _, h, _ => h
  | .fl _, ⟨a, e, h, o⟩, s => ⟨a, e, h.same s, o⟩
def place : Nm → Option (Int × Int)
  | .int i => some (i, 1)
  | .fl (.fin s t p) => some (ratT s t p, ratB p)
  | .fl (.inf s) => some (s * 2 ^ 1025, 1)
  | .fl .nan => none
theorem bits_mul (a b : Int) : bits (a * b) ≤ bits a + bits b := by
  have := intBits_mul_le (x := a) (y := b) (m := Builtin.Int.intBits a) (n := Builtin.Int.intBits b) (Nat.le_refl _) (Nat.le_refl _)
  unfold bits
  omega
theorem bits_pow (k : Nat) : bits (2 ^ k) = k + 1 := bits_eq (Int.le_refl _) (by rw [Int.pow_succ]; have := pow_pos2 k; omega)
theorem ratT_bits {s t p : Int} (h : (Fl.fin s t p).ok) : bits (ratT s t p) ≤ 1200 := by
  obtain ⟨bs, bt, p1, p2, t0, tp⟩ := ok_bounds h
  unfold ratT
  split
  · have := bits_mul s t; omega
  · have h1 := bits_mul s (t * 2 ^ p.toNat)
    have h2 := bits_mul_pow t0 p.toNat
    omega
theorem ratB_bits {s t p : Int} (h : (Fl.fin s t p).ok) : bits (ratB p) ≤ 1200 := by
  obtain ⟨bs, bt, p1, p2, t0, tp⟩ := ok_bounds h
  unfold ratB
  split
  · rw [bits_pow]; omega
  · decide
theorem ratB_pos (p : Int) : 0 < ratB p := by
  unfold ratB
  split
  · exact pow_pos2 _
  · decide
theorem place_bits {CF : Addr} {H : Hp} {x : V} {n : Nm} {a b : Int} (h : NmAt CF H x n) (e : place n = some (a, b)) : bits a ≤ 1200 ∧ bits b ≤ 1200 := by
  match n, h, e with
  | .int i, h, e =>
    cases e
    exact ⟨by have := h.2; omega, by decide⟩
  | .fl (.fin s t p), ⟨_, _, _, ok⟩, e =>
    cases e
    exact ⟨ratT_bits ok, ratB_bits ok⟩
  | .fl (.inf s), ⟨_, _, _, ok⟩, e =>
    cases e
    refine ⟨?_, by decide⟩
    have h1 := bits_mul s (2 ^ 1025)
    rw [bits_pow] at h1
    have h2 : bits s ≤ 1 := by rcases (show s = 1 ∨ s = -1 from ok) with rfl | rfl <;> decide
    omega
  | .fl .nan, _, e => cases e
section
variable {P : Program} {w : World} {K : PySem.W.Frag} {mg : Str → Option Value} {base : Heap} {CF : Addr}
theorem NmAt.says (T : All K mg CF) {H : Hp} {x : V} {n : Nm} (h : NmAt CF H x n) : ∃ pl fl, Says K CF H x pl false false fl ∧ (fl || ((pl || false) && !false)) = true ∧ (fl = match n with | .int _ => false | .fl _ => true) := by
  cases n with
  | int i =>
    obtain ⟨rfl, _⟩ := h
    exact ⟨true, false, says_int T, rfl, rfl⟩
  | fl f =>
    obtain ⟨a, rfl, ⟨dx, e⟩, _⟩ := h
    exact ⟨false, true, says_fl T e, rfl, rfl⟩
end
end Nu

set_option Elab.async false
set_option linter.all false
set_option maxRecDepth 100000
set_option autoImplicit false
set_option maxHeartbeats 4000000
namespace Nu
open PySem PySem.Spec PyProof.Rows L2 Rd
local macro_rules | `(tactic| walk_at "hp") => `(tactic| first | assumption | (refine same_get ?sm ?_; (case sm => assumption); walk_at "hp"))
local macro_rules | `(tactic| walk_at "rd") => `(tactic| first
  | with_reducible refine w_nx ?_
  | with_reducible refine w_rt ?_
  | with_reducible refine w_bk ?_
  | with_reducible refine w_ct ?_
  | with_reducible refine w_seq ?_
  | with_reducible refine w_next ?_
  | with_reducible refine w_ret ?_
  | with_reducible refine w_ifS ?_
  | with_reducible refine w_asg ?_
  | with_reducible refine w_name ?_
  | with_reducible refine w_par ?_
  | with_reducible refine w_parI ?_
  | with_reducible refine w_ii ?_
  | with_reducible refine w_i1 ?_
  | with_reducible refine w_drop ?_
  | with_reducible refine w_sFld ?_
  | ((with_reducible refine' w_var ?rdh ?_); (case rdh => exact rfl))
  | with_reducible refine w_c ?_
  | with_reducible refine w_op ?_
  | with_reducible refine w_un ?_
  | with_reducible refine w_I0 ?_
  | with_reducible refine w_U ?_
  | with_reducible refine w_bits ?_
  | with_reducible refine w_bitsI ?_
  | with_reducible refine w_tup ?_
  | with_reducible refine w_lst ?_
  | with_reducible refine w_nil ?_
  | with_reducible refine w_cons ?_
  | with_reducible refine w_fld ?_
  | with_reducible refine w_call ?_
  | with_reducible refine w_make ?_
  | with_reducible refine w_gsub ?_
  | with_reducible refine w_int1 ?_
  | with_reducible refine w_intB ?_
  | with_reducible refine w_for ?_
  | with_reducible refine w_rng1 ?_
  | with_reducible refine w_iList ?_
  | with_reducible refine w_iTup ?_
  | with_reducible refine w_makeD ?_
  | with_reducible refine w_nn ?_
  | with_reducible refine w_subB ?_
  | with_reducible refine w_meth ?_
  | with_reducible refine w_cb ?_
  | with_reducible refine w_test ?_
  | with_reducible refine w_B ?_
  | with_reducible refine w_bl ?_
  | with_reducible refine w_andV ?_
  | with_reducible refine w_orV ?_
  | with_reducible refine w_notV ?_
  | with_reducible refine w_and ?_
  | with_reducible refine w_or ?_
  | with_reducible refine w_not ?_
  | with_reducible refine w_if ?_
  | with_reducible refine w_gnil ?_
  | with_reducible refine w_gcons ?_
  | with_reducible refine iT ?_
  | with_reducible refine iF ?_
  | with_reducible refine w_eqI ?_
  | with_reducible refine w_neI ?_
  | with_reducible refine w_eqS ?_
  | with_reducible refine w_eqIS ?_
  | with_reducible refine w_eqSI ?_)

abbrev s_law_well : Stmt := top 35
abbrev s_law_draw : Stmt := top 36
abbrev s_law_one : Stmt := top 37
structure AllL (K : PySem.W.Frag) (mg : Str → Option Value) (CF : Addr) : Prop extends All K mg CF where
  x_well : Tx K mg "_law_well" "_law_well" s_law_well ["cell"]
  x_draw : Tx K mg "_law_draw" "_law_draw" s_law_draw ["well", "many"]
  x_one : Tx K mg "_law_one" "_law_one" s_law_one ["well", "some"]
/-! ### the well: a list of three ints -/
structure WellD (n : Nat) (a b c : Int) : Prop where
  a0 : 0 ≤ a
  a1 : bits a ≤ 1048580
  b0 : 0 ≤ b
  b1 : b < 2147483647
  c0 : 0 ≤ c
  c1 : c ≤ n
def Well (n : Nat) (H : Hp) (w : Addr) : Prop := ∃ a b c, H w = some (.lst [.int a, .int b, .int c]) ∧ WellD n a b c
theorem Well.mono {n m : Nat} {H : Hp} {w : Addr} (h : Well n H w) (hm : n ≤ m) : Well m H w := by
  obtain ⟨a, b, c, e, d⟩ := h
  exact ⟨a, b, c, e, ⟨d.a0, d.a1, d.b0, d.b1, d.c0, by have := d.c1; omega⟩⟩
theorem Well.same {n : Nat} {H H' : Hp} {w : Addr} (h : Well n H w) (s : Same H H') : Well n H' w := by
  obtain ⟨a, b, c, e, d⟩ := h
  exact ⟨a, b, c, s _ _ e, d⟩
theorem bits_small {n : Int} {k : Nat} (h0 : 0 ≤ n) (h : n < 2 ^ k) : bits n ≤ k := (bits_lt_pow h0).2 h
theorem bits_i (n : Int) : bits n = (Builtin.Int.intBits n : Nat) := rfl
theorem cmulS {i j : Int} (h : i.natAbs < 18446744073709551616) (h' : j.natAbs < 18446744073709551616) : CMulX i j := by
  refine cmulW ?_
  have a := (bits_le (n := i) (k := 64)).2 h
  have b := (bits_le (n := j) (k := 64)).2 h'
  unfold bits at a b
  omega
section
variable {P : Program} {w : World} {K : PySem.W.Frag} {mg : Str → Option Value} {base : Heap} {CF : Addr}
def spWell : Sp := fun vs H Q _ => ∃ c, vs = [.int c] ∧ bits c ≤ 1048576 ∧ ∀ p H', Same H H' → H p = none → Well 0 H' p → Q (.ref p) H'
theorem sc_law_well : FnScope ["cell"] ["cell"] (defScope s_law_well) := ⟨rfl, rfl, rfl, by decide +kernel, rfl, by decide +kernel, by decide +kernel⟩
theorem ok_well (T : AllL K mg CF) : Kn P w K mg base CX0 1 "_law_well" ["cell"] spWell := by
  refine T.x_well.kn fun f fd F => ?_
  refine F.ok sc_law_well (fun vs H Q E h => ?_) (fun cdv A outer s H vs Q E hr h => ?_)
  · obtain ⟨c, rfl, _⟩ := h
    rfl
  · obtain ⟨c, rfl, hc, q⟩ := h
    refine ⟨_, (pss_one (ps_ret (pe_lst (pa_cons (pe_op op_mulX (pv 0) (pe_callTy call_int1 (by rfl) T.b_int boot_int (pa_cons (pe_cmpR op_ge (pv 0) (pe_op op_pow pe_int pe_int) (nomark _)) pa_nil))) (pa_cons (pe_op op_mod (pe_callTy call_int1 (by rfl) T.b_int boot_int (pa_cons (pv 0) pa_nil)) pe_int) (pa_cons pe_int pa_nil)))))), ?_⟩
    repeat walk_at "rd"
    refine w_I (cpow (by decide) (by decide) (by decide)) ?_
    repeat walk_at "rd"
    refine w_I (cmulW (by have : bits (if decide (10 ^ Int.toNat 18 ≤ c) = true then (1 : Int) else 0) ≤ 1 := by split <;> decide
                          unfold bits at this hc; omega)) ?_
    repeat walk_at "rd"
    refine w_I (by decide) ?_
    repeat walk_at "rd"
    refine w_lst3 fun p H' s n h => ?_
    refine q p H' s n ⟨_, _, _, h, ?_⟩
    by_cases g : (10 : Int) ^ Int.toNat 18 ≤ c
    · rw [decide_eq_true g, if_pos rfl, Int.mul_one]
      have : (0 : Int) < 10 ^ Int.toNat 18 := by decide
      exact ⟨by omega, by omega, Int.emod_nonneg _ (by decide), Int.emod_lt_of_pos _ (by decide), Int.le_refl _, Int.le_refl _⟩
    · rw [decide_eq_false g, if_neg Bool.false_ne_true, Int.mul_zero]
      exact ⟨Int.le_refl _, by decide, Int.emod_nonneg _ (by decide), Int.emod_lt_of_pos _ (by decide), Int.le_refl _, Int.le_refl _⟩
/-! ### a draw -/
def spDraw : Sp := fun vs H Q _ => ∃ p many n, vs = [.ref p, .int many] ∧ Well n H p ∧ n < 1000000 ∧ 0 < many ∧ bits many ≤ 64 ∧
  ∀ r H', Oth p H H' → Well (n + 1) H' p → 0 ≤ r → r < many → Q (.int r) H'
theorem sc_law_draw : FnScope ["well", "many", "digit", "number"] ["well", "many"] (defScope s_law_draw) := ⟨rfl, rfl, rfl, by decide +kernel, rfl, by decide +kernel, by decide +kernel⟩
theorem ok_draw (T : AllL K mg CF) : Kn P w K mg base CX0 1 "_law_draw" ["well", "many"] spDraw := by
  refine T.x_draw.kn fun f fd F => ?_
  refine F.ok sc_law_draw (fun vs H Q E h => ?_) (fun cdv A outer s H vs Q E hr h => ?_)
  · obtain ⟨p, many, n, rfl, _⟩ := h
    rfl
  · obtain ⟨p, many, n, rfl, ⟨a, b, c, hw, d⟩, hn, m0, m1, q⟩ := h
    refine ⟨_, (pss_cons (ps_if (pt_cmpR op_gt (pe_ix ix_list (pv 0) pe_int (fun _ _ => rfl)) pe_int (nomark _)) (pss_cons (ps_set (i := 2) sc_law_draw.nd rfl (Or.inl rfl) (pe_op op_mod (pe_callTy call_int1 (by rfl) T.b_int boot_int (pa_cons (pe_ix ix_list (pv 0) pe_int (fun _ _ => rfl)) pa_nil)) (pv 1)))
      (pss_cons (ps_asg (pe_op op_fdivW (pe_ix ix_list (pv 0) pe_int (fun _ _ => rfl)) (pv 1)) (pg_sub (pv 0) pe_int set_list))
      (pss_one (ps_ret (pv 2))))) pss_nil)
      (pss_cons (ps_asg (pe_op op_add (pe_ix ix_list (pv 0) pe_int (fun _ _ => rfl)) pe_int) (pg_sub (pv 0) pe_int set_list))
      (pss_cons (ps_set (i := 3) sc_law_draw.nd rfl (Or.inl rfl) (pe_op op_mod (pe_callTy call_int1 (by rfl) T.b_int boot_int (pa_cons (pe_op op_add (pe_op op_add (pe_op op_mulX (pe_ix ix_list (pv 0) pe_int (fun _ _ => rfl)) pe_int) (pe_op op_mulX pe_int (pe_ix ix_list (pv 0) pe_int (fun _ _ => rfl)))) pe_int) pa_nil)) pe_int))
      (pss_cons (ps_set (i := 3) sc_law_draw.nd rfl (Or.inl rfl) (pe_op op_mod (pe_callTy call_int1 (by rfl) T.b_int boot_int (pa_cons (pe_op op_mulX (pv 3) (pe_op op_add (pe_op op_fdivW (pv 3) pe_int) pe_int)) pa_nil)) pe_int))
      (pss_cons (ps_set (i := 3) sc_law_draw.nd rfl (Or.inl rfl) (pe_op op_mod (pe_callTy call_int1 (by rfl) T.b_int boot_int (pa_cons (pe_op op_mulX (pv 3) (pe_op op_add (pe_op op_add (pe_op op_fdivW (pv 3) pe_int) pe_int) (pe_ix ix_list (pv 0) pe_int (fun _ _ => rfl)))) pa_nil)) pe_int))
      (pss_one (ps_ret (pe_op op_mod (pe_callTy call_int1 (by rfl) T.b_int boot_int (pa_cons (pe_op op_fdivW (pv 3) pe_int) pa_nil)) (pv 1))))))))), ?_⟩
    obtain ⟨a0, a1, b0, b1, c0, c1⟩ := d
    repeat walk_at "rd"
    refine w_ixL hw (v := .int a) rfl ?_
    repeat walk_at "rd"
    refine iD (fun g => ?_) (fun g => ?_)
    · repeat walk_at "rd"
      refine w_ixL hw (v := .int a) rfl ?_
      repeat walk_at "rd"
      refine w_I m0 ?_
      repeat walk_at "rd"
      refine w_ixL hw (v := .int a) rfl ?_
      repeat walk_at "rd"
      refine w_I (cdivw m0 (by omega)) ?_
      repeat walk_at "rd"
      refine w_setL hw rfl ?_
      repeat walk_at "rd"
      refine q _ _ Oth.refl.put ⟨_, _, _, upd_same, ?_⟩ (Int.emod_nonneg _ (by omega)) (Int.emod_lt_of_pos _ m0)
      have e : a / many ≤ a := Int.ediv_le_self _ a0
      have e0 : 0 ≤ a / many := Int.ediv_nonneg a0 (by omega)
      exact ⟨e0, by have := bits_mono e0 e; omega, b0, b1, c0, by omega⟩
    · repeat walk_at "rd"
      refine w_ixL hw (v := .int c) rfl ?_
      repeat walk_at "rd"
      refine w_setL (j := 2) hw rfl ?_
      have hw2 := upd_same (H := H) (a := p) (o := .lst (List.set [V.int a, .int b, .int c] 2 (.int (c + 1))))
      have o2 := (Oth.refl (x := p) (H := H)).put (o := .lst (List.set [V.int a, .int b, .int c] 2 (.int (c + 1))))
      generalize upd H p (.lst (List.set [V.int a, .int b, .int c] 2 (.int (c + 1)))) = H2 at hw2 o2 ⊢
      change H2 p = some (.lst [.int a, .int b, .int (c + 1)]) at hw2
      have W2 : Well (n + 1) H2 p := ⟨_, _, _, hw2, ⟨a0, a1, b0, b1, by omega, by omega⟩⟩
      repeat walk_at "rd"
      refine w_ixL hw2 (v := .int b) rfl ?_
      repeat walk_at "rd"
      refine w_I (cmulS (by omega) (by decide)) ?_
      repeat walk_at "rd"
      refine w_ixL hw2 (v := .int (c + 1)) rfl ?_
      refine w_I (cmulS (by decide) (by omega)) ?_
      repeat walk_at "rd"
      refine w_I (by decide) ?_
      have g0 := Int.emod_nonneg (b * 48271 + 30103 * (c + 1) + 11) (show (2147483647 : Int) ≠ 0 by decide)
      have g1 := Int.emod_lt_of_pos (b * 48271 + 30103 * (c + 1) + 11) (show (0 : Int) < 2147483647 by decide)
      generalize (b * 48271 + 30103 * (c + 1) + 11) % 2147483647 = x1 at g0 g1 ⊢
      repeat walk_at "rd"
      refine w_I (cdivw (by decide) (by decide)) ?_
      repeat walk_at "rd"
      refine w_I (cmulS (by omega) (by omega)) ?_
      repeat walk_at "rd"
      refine w_I (by decide) ?_
      have g2 := Int.emod_nonneg (x1 * (x1 / 1009 + 69621)) (show (2147483629 : Int) ≠ 0 by decide)
      have g3 := Int.emod_lt_of_pos (x1 * (x1 / 1009 + 69621)) (show (0 : Int) < 2147483629 by decide)
      generalize x1 * (x1 / 1009 + 69621) % 2147483629 = x2 at g2 g3 ⊢
      repeat walk_at "rd"
      refine w_I (cdivw (by decide) (by decide)) ?_
      repeat walk_at "rd"
      refine w_ixL hw2 (v := .int (c + 1)) rfl ?_
      repeat walk_at "rd"
      refine w_I (cmulS (by omega) (by omega)) ?_
      repeat walk_at "rd"
      refine w_I (by decide) ?_
      repeat walk_at "rd"
      refine w_I (cdivw (by decide) (by decide)) ?_
      repeat walk_at "rd"
      refine w_I m0 ?_
      exact q _ _ o2 W2 (Int.emod_nonneg _ (by omega)) (Int.emod_lt_of_pos _ m0)
/-! ### one of some -/
def spOne : Sp := fun vs H Q _ => ∃ (p l : Addr) (n : Nat) (xs : List V), vs = [.ref p, .ref l] ∧ Well n H p ∧ n < 1000000 ∧ l ≠ p ∧ H l = some (.lst xs) ∧ 0 < xs.length ∧ xs.length ≤ 1000 ∧
  ∀ (i : Nat) v H', xs[i]? = some v → Oth p H H' → Well (n + 1) H' p → Q v H'
theorem atI_nat {xs : List V} {r : Int} (h0 : 0 ≤ r) (h1 : r < xs.length) : ∃ v, atI xs r = some v ∧ xs[r.toNat]? = some v := by
  obtain ⟨k, rfl⟩ := Int.eq_ofNat_of_zero_le h0
  have h : k < xs.length := by omega
  refine ⟨xs[k], ?_, ?_⟩
  · unfold atI ixN
    rw [if_pos h0, if_pos h1]
    simp [h]
  · simp [h]
theorem sc_law_one : FnScope ["well", "some"] ["well", "some"] (defScope s_law_one) := ⟨rfl, rfl, rfl, by decide +kernel, rfl, by decide +kernel, by decide +kernel⟩
theorem ok_one (T : AllL K mg CF) (k_law_draw : Kn P w K mg base CX0 1 "_law_draw" ["well", "many"] spDraw) : Kn P w K mg base CX0 2 "_law_one" ["well", "some"] spOne := by
  refine T.x_one.kn fun f fd F => ?_
  refine F.ok sc_law_one (fun vs H Q E h => ?_) (fun cdv A outer s H vs Q E hr h => ?_)
  · obtain ⟨p, l, n, xs, rfl, _⟩ := h
    rfl
  · obtain ⟨p, l, n, xs, rfl, hw, hn, lp, hl, l0, l1, q⟩ := h
    refine ⟨_, (pss_one (ps_ret (pe_ix ix_list (pv 1) (pk k_law_draw hr (pa_cons (pv 0) (pa_cons (pe_callB call_len_seq (by rfl) T.b_len boot_len (pa_cons (pv 1) pa_nil)) pa_nil))) (fun _ _ => rfl)))), ?_⟩
    repeat walk_at "rd"
    refine w_lenL hl ?_
    repeat walk_at "rd"
    refine ⟨p, _, n, rfl, hw, hn, by omega, ?_, fun r H' o W r0 r1 => ?_⟩
    · have := (bits_lt_pow (n := (xs.length : Int)) (k := 64) (by omega)).2 (Int.lt_trans (show (xs.length : Int) < 18446744073709551615 by omega) (by decide))
      exact this
    repeat walk_at "rd"
    obtain ⟨v, e1, e2⟩ := atI_nat r0 r1
    refine w_ixL (o l _ lp hl) e1 ?_
    exact q _ v H' e2 o W
end
end Nu

set_option Elab.async false
set_option linter.all false
set_option maxRecDepth 100000
set_option autoImplicit false
set_option maxHeartbeats 4000000
namespace Nu
open PySem PySem.Spec PyProof.Rows L2 Rd
local macro_rules | `(tactic| walk_at "hp") => `(tactic| first | assumption | (refine same_get ?sm ?_; (case sm => assumption); walk_at "hp"))
local macro_rules | `(tactic| walk_at "rd") => `(tactic| first
  | with_reducible refine w_nx ?_
  | with_reducible refine w_rt ?_
  | with_reducible refine w_bk ?_
  | with_reducible refine w_ct ?_
  | with_reducible refine w_seq ?_
  | with_reducible refine w_next ?_
  | with_reducible refine w_ret ?_
  | with_reducible refine w_ifS ?_
  | with_reducible refine w_asg ?_
  | with_reducible refine w_name ?_
  | with_reducible refine w_par ?_
  | with_reducible refine w_parI ?_
  | with_reducible refine w_ii ?_
  | with_reducible refine w_i1 ?_
  | with_reducible refine w_drop ?_
  | with_reducible refine w_sFld ?_
  | ((with_reducible refine' w_var ?rdh ?_); (case rdh => exact rfl))
  | with_reducible refine w_c ?_
  | with_reducible refine w_op ?_
  | with_reducible refine w_un ?_
  | with_reducible refine w_I0 ?_
  | with_reducible refine w_U ?_
  | with_reducible refine w_bits ?_
  | with_reducible refine w_bitsI ?_
  | with_reducible refine w_tup ?_
  | with_reducible refine w_lst ?_
  | with_reducible refine w_nil ?_
  | with_reducible refine w_cons ?_
  | with_reducible refine w_fld ?_
  | with_reducible refine w_call ?_
  | with_reducible refine w_make ?_
  | with_reducible refine w_gsub ?_
  | with_reducible refine w_int1 ?_
  | with_reducible refine w_intB ?_
  | with_reducible refine w_for ?_
  | with_reducible refine w_rng1 ?_
  | with_reducible refine w_iList ?_
  | with_reducible refine w_iTup ?_
  | with_reducible refine w_makeD ?_
  | with_reducible refine w_nn ?_
  | with_reducible refine w_subB ?_
  | with_reducible refine w_meth ?_
  | with_reducible refine w_cb ?_
  | with_reducible refine w_test ?_
  | with_reducible refine w_B ?_
  | with_reducible refine w_bl ?_
  | with_reducible refine w_andV ?_
  | with_reducible refine w_orV ?_
  | with_reducible refine w_notV ?_
  | with_reducible refine w_and ?_
  | with_reducible refine w_or ?_
  | with_reducible refine w_not ?_
  | with_reducible refine w_if ?_
  | with_reducible refine w_gnil ?_
  | with_reducible refine w_gcons ?_
  | with_reducible refine iT ?_
  | with_reducible refine iF ?_
  | with_reducible refine w_eqI ?_
  | with_reducible refine w_neI ?_
  | with_reducible refine w_eqS ?_
  | with_reducible refine w_eqIS ?_
  | with_reducible refine w_eqSI ?_)

abbrev s_law_great : Stmt := top 38
abbrev s_law_finite : Stmt := top 39
abbrev s_law_float : Stmt := top 40
structure AllM (K : PySem.W.Frag) (mg : Str → Option Value) (CF : Addr) : Prop extends AllL K mg CF where
  x_great : Tx K mg "_law_great" "_law_great" s_law_great ["well", "bits"]
  x_finite : Tx K mg "_law_finite" "_law_finite" s_law_finite ["well"]
  x_float : Tx K mg "_law_float" "_law_float" s_law_float ["well"]
section
variable {P : Program} {w : World} {K : PySem.W.Frag} {mg : Str → Option Value} {base : Heap} {CF : Addr}
/-! ### a great int -/
def spGreat : Sp := fun vs H Q _ => ∃ (p : Addr) (b : Int) (n : Nat), vs = [.ref p, .int b] ∧ Well n H p ∧ n < 900000 ∧ 0 ≤ b ∧ b ≤ 100 ∧
  ∀ r H', Oth p H H' → Well (n + 10) H' p → 0 ≤ r → r < 2 ^ b.toNat → Q (.int r) H'
theorem sc_law_great : FnScope ["well", "bits", "number", "k"] ["well", "bits"] (defScope s_law_great) := ⟨rfl, rfl, rfl, by decide +kernel, rfl, by decide +kernel, by decide +kernel⟩
theorem ok_great (T : AllM K mg CF) (k_law_draw : Kn P w K mg base CX0 1 "_law_draw" ["well", "many"] spDraw) : Kn P w K mg base CX0 2 "_law_great" ["well", "bits"] spGreat := by
  refine T.x_great.kn fun f fd F => ?_
  refine F.ok sc_law_great (fun vs H Q E h => ?_) (fun cdv A outer s H vs Q E hr h => ?_)
  · obtain ⟨p, b, n, rfl, _⟩ := h
    rfl
  · obtain ⟨p, b, n, rfl, hw, hn, hb0, hb1, q⟩ := h
    refine ⟨_, (pss_cons (ps_set (i := 2) sc_law_great.nd rfl (Or.inl rfl) pe_int)
      (pss_cons (ps_for PassesOwn.never rfl (pi_range1 rfl T.b_range (pa_cons (pe_op op_add pe_int (pe_op op_fdivW (pv 1) pe_int)) pa_nil)) (pg_name (i := 3) sc_law_great.nd rfl (Or.inl rfl))
      (pss_one (ps_set (i := 2) sc_law_great.nd rfl (Or.inl rfl) (pe_op op_add (pe_op op_mulX (pv 2) pe_int) (pk k_law_draw hr (pa_cons (pv 0) (pa_cons pe_int pa_nil)))))))
      (pss_one (ps_ret (pe_op op_mod (pe_callTy call_int1 (by rfl) T.b_int boot_int (pa_cons (pv 2) pa_nil)) (pe_op op_shlW pe_int (pv 1))))))), ?_⟩
    repeat walk_at "rd"
    refine w_I (cdivw (by decide) (by decide)) ?_
    repeat walk_at "rd"
    refine ⟨by omega, by omega, ?_⟩
    have e : (1 + b / 20).toNat ≤ 6 := by omega
    generalize (1 + b / 20).toNat = m at e ⊢
    refine for_range (lo := 0) (fun i σ H' => ∃ num kv, σ = [some (.ref p), some (.int b), some (.int num), kv] ∧ Oth p H H' ∧ Well (n + i) H' p ∧ 0 ≤ num ∧ num < 2 ^ (20 * i)) ⟨0, none, rfl, Oth.refl, hw, Int.le_refl _, by decide⟩ ?_ ?_
    · intro i σ H1 hi ⟨num, kv, es, o1, w1, n0, n1⟩
      subst es
      repeat walk_at "rd"
      have bn := (bits_lt_pow n0).2 n1
      refine w_I (cmulW (by unfold bits at bn; have : Builtin.Int.intBits 1048576 = 21 := by decide
                            omega)) ?_
      repeat walk_at "rd"
      refine ⟨p, 1048576, n + i, rfl, w1, by omega, by decide, by decide, fun r H2 o2 w2 r0 r1 => ?_⟩
      repeat walk_at "rd"
      refine ⟨_, _, rfl, o1.trans o2, w2, by omega, ?_⟩
      rw [show 20 * (i + 1) = 20 * i + 20 from by omega, Int.pow_add, show (2 : Int) ^ 20 = 1048576 by decide]
      omega
    · intro σ H1 ⟨num, kv, es, o1, w1, n0, n1⟩
      subst es
      repeat walk_at "rd"
      refine w_I (cshl (by decide) hb0 (by omega)) ?_
      repeat walk_at "rd"
      have pp := pow_pos2 b.toNat
      refine w_I (by rw [Int.one_mul]; exact pp) ?_
      rw [Int.one_mul]
      exact q _ _ o1 (w1.mono (by omega)) (Int.emod_nonneg _ (by omega)) (Int.emod_lt_of_pos _ pp)
theorem u_draw {p : Addr} {many : Int} {n : Nat} {H : Hp} {Q : VK} {E : XK} (hw : Well n H p) (hn : n < 1000000) (m0 : 0 < many) (m1 : bits many ≤ 64) (q : ∀ r H', Oth p H H' → Well (n + 1) H' p → 0 ≤ r → r < many → Q (.int r) H') : spDraw ([V.ref p, V.int many] ++ []) H Q E :=
  ⟨p, many, n, rfl, hw, hn, m0, m1, q⟩
theorem u_one {p l : Addr} {xs : List V} {n : Nat} {H : Hp} {Q : VK} {E : XK} (hw : Well n H p) (hn : n < 1000000) (hl : H l = some (.lst xs)) (lp : l ≠ p) (l0 : 0 < xs.length) (l1 : xs.length ≤ 1000) (q : ∀ v H', v ∈ xs → Oth p H H' → Well (n + 1) H' p → Q v H') : spOne ([V.ref p, V.ref l] ++ []) H Q E :=
  ⟨p, l, n, xs, rfl, hw, hn, lp, hl, l0, l1, fun i v H' e o W => q v H' (List.mem_of_getElem? e) o W⟩
/-- a call of _law_one on a list that is made in the call -/
theorem u_great {p : Addr} {b : Int} {n : Nat} {H : Hp} {Q : VK} {E : XK} (hw : Well n H p) (hn : n < 900000) (m0 : 0 ≤ b) (m1 : b ≤ 100) (q : ∀ r H', Oth p H H' → Well (n + 10) H' p → 0 ≤ r → r < 2 ^ b.toNat → Q (.int r) H') : spGreat ([V.ref p, V.int b] ++ []) H Q E :=
  ⟨p, b, n, rfl, hw, hn, m0, m1, q⟩
theorem Well.ne {n : Nat} {H : Hp} {p l : Addr} (h : Well n H p) (e : H l = none) : l ≠ p := by
  rintro rfl
  obtain ⟨_, _, _, k, _⟩ := h
  rw [e] at k
  cases k
/-! ### a finite float's parts -/
structure FinA (s t p : Int) : Prop where
  hs : s = 1 ∨ s = -1
  t0 : 0 ≤ t
  t1 : t < 9007199254740992
  p0 : -1074 ≤ p
  p1 : p ≤ 971
def spFin : Sp := fun vs H Q _ => ∃ (p : Addr) (n : Nat), vs = [.ref p] ∧ Well n H p ∧ n < 800000 ∧
  ∀ q H' s t pw, Oth p H H' → Well (n + 40) H' p → H' q = some (.tup [.int s, .int t, .int pw]) → FinA s t pw → Q (.ref q) H'
theorem sc_law_finite : FnScope ["well", "sign", "way", "some"] ["well"] (defScope s_law_finite) := ⟨rfl, rfl, rfl, by decide +kernel, rfl, by decide +kernel, by decide +kernel⟩
theorem ok_finite (T : AllM K mg CF) (k_law_draw : Kn P w K mg base CX0 1 "_law_draw" ["well", "many"] spDraw) (k_law_one : Kn P w K mg base CX0 2 "_law_one" ["well", "some"] spOne) (k_law_great : Kn P w K mg base CX0 2 "_law_great" ["well", "bits"] spGreat) :
    Kn P w K mg base CX0 3 "_law_finite" ["well"] spFin := by
  refine T.x_finite.kn fun f fd F => ?_
  refine F.ok sc_law_finite (fun vs H Q E h => ?_) (fun cdv A outer s H vs Q E hr h => ?_)
  · obtain ⟨p, n, rfl, _⟩ := h
    rfl
  · obtain ⟨p, n, rfl, hw, hn, q⟩ := h
    refine ⟨_, (pss_cons (ps_par (by rfl) sc_law_finite.nd (i := 1) (j := 2) rfl rfl (by decide) rfl rfl (pa_cons (pk k_law_one hr (pa_cons (pv 0) (pa_cons (pe_lst (pa_cons pe_int (pa_cons (pe_un un_neg pe_int) pa_nil))) pa_nil))) (pa_cons (pk k_law_draw hr (pa_cons (pv 0) (pa_cons pe_int pa_nil))) pa_nil)) (by rfl))
      (pss_cons (ps_if (pt_cmpR op_eq (pv 2) pe_int (nomark _)) (pss_one (ps_ret (pe_tup (pa_cons (pv 1) (pa_cons pe_int (pa_cons pe_int pa_nil)))))) pss_nil)
      (pss_cons (ps_if (pt_cmpR op_lt (pv 2) pe_int (nomark _)) (pss_one (ps_ret (pe_tup (pa_cons (pv 1) (pa_cons (pk k_law_draw hr (pa_cons (pv 0) (pa_cons pe_int pa_nil))) (pa_cons (pk k_law_one hr (pa_cons (pv 0) (pa_cons (pe_lst (pa_cons pe_int (pa_cons pe_int (pa_cons (pe_un un_neg pe_int) (pa_cons (pe_un un_neg pe_int) pa_nil))))) pa_nil))) pa_nil)))))) pss_nil)
      (pss_cons (ps_set (i := 3) sc_law_finite.nd rfl (Or.inl rfl) (pe_lst (pa_cons (pe_op op_sub (pk k_law_draw hr (pa_cons (pv 0) (pa_cons pe_int pa_nil))) pe_int) (pa_cons (pe_op op_sub pe_int (pk k_law_draw hr (pa_cons (pv 0) (pa_cons pe_int pa_nil)))) (pa_cons (pk k_law_draw hr (pa_cons (pv 0) (pa_cons pe_int pa_nil))) (pa_cons (pe_op op_sub pe_int (pk k_law_draw hr (pa_cons (pv 0) (pa_cons pe_int pa_nil)))) pa_nil))))))
      (pss_cons (ps_set (i := 3) sc_law_finite.nd rfl (Or.inl rfl) (pe_op op_cat (pv 3) (pe_lst (pa_cons (pe_op op_sub (pe_un un_neg pe_int) (pk k_law_draw hr (pa_cons (pv 0) (pa_cons pe_int pa_nil)))) (pa_cons (pe_op op_sub (pk k_law_draw hr (pa_cons (pv 0) (pa_cons pe_int pa_nil))) pe_int) pa_nil)))))
      (pss_one (ps_ret (pe_tup (pa_cons (pv 1) (pa_cons (pk k_law_great hr (pa_cons (pv 0) (pa_cons (pk k_law_one hr (pa_cons (pv 0) (pa_cons (pe_lst (pa_cons pe_int (pa_cons pe_int (pa_cons pe_int (pa_cons pe_int pa_nil))))) pa_nil))) pa_nil))) (pa_cons (pe_callB (call_min2 rfl) (by rfl) T.b_min boot_min (pa_cons pe_int (pa_cons (pk k_law_one hr (pa_cons (pv 0) (pa_cons (pv 3) pa_nil))) pa_nil))) pa_nil))))))))))), ?_⟩
    repeat walk_at "rd"
    refine w_lst2 fun a1 H1 s1 n1 h1 => ?_
    repeat walk_at "rd"
    refine u_one (hw.same s1) (by omega) h1 (hw.ne n1) (by decide) (by decide) fun v H2 hv o2 w2 => ?_
    have o2 := (Rd.Same.oth (x := p) s1).trans o2
    obtain ⟨sg, rfl, hs⟩ : ∃ sg, v = .int sg ∧ (sg = 1 ∨ sg = -1) := by
      simp only [List.mem_cons, List.not_mem_nil, or_false] at hv
      rcases hv with rfl | rfl
      · exact ⟨_, rfl, .inl rfl⟩
      · exact ⟨_, rfl, .inr rfl⟩
    repeat walk_at "rd"
    refine u_draw w2 (by omega) (by decide) (by decide) fun way H3 o3 w3 r0 r1 => ?_
    have o3 := o2.trans o3
    repeat walk_at "rd"
    refine iD (fun _ => ?_) (fun _ => ?_)
    · repeat walk_at "rd"
      refine w_tup3 fun a4 H4 s4 n4 h4 => ?_
      repeat walk_at "rd"
      exact q a4 H4 sg 0 0 (o3.same s4) ((w3.mono (by omega)).same s4) h4 ⟨hs, by decide, by decide, by decide, by decide⟩
    repeat walk_at "rd"
    refine iD (fun _ => ?_) (fun _ => ?_)
    · repeat walk_at "rd"
      refine u_draw w3 (by omega) (by decide) (by decide) fun t H4 o4 w4 t0 t1 => ?_
      repeat walk_at "rd"
      refine w_lst4 fun a5 H5 s5 n5 h5 => ?_
      repeat walk_at "rd"
      refine u_one (w4.same s5) (by omega) h5 (w4.ne n5) (by decide) (by decide) fun v H6 hv o6 w6 => ?_
      have o6 := ((o3.trans o4).same s5).trans o6
      obtain ⟨pw, rfl, hp⟩ : ∃ pw, v = .int pw ∧ -3 ≤ pw ∧ pw ≤ 0 := by
        simp only [List.mem_cons, List.not_mem_nil, or_false] at hv
        rcases hv with rfl | rfl | rfl | rfl <;> exact ⟨_, rfl, by decide, by decide⟩
      repeat walk_at "rd"
      refine w_tup3 fun a4 H4 s4 n4 h4 => ?_
      repeat walk_at "rd"
      exact q a4 H4 sg t pw (o6.same s4) ((w6.mono (by omega)).same s4) h4 ⟨hs, t0, by omega, by omega, by omega⟩
    repeat walk_at "rd"
    refine u_draw w3 (by omega) (by decide) (by decide) fun t1 H4 o4 w4 t1l t1u => ?_
    repeat walk_at "rd"
    refine u_draw w4 (by omega) (by decide) (by decide) fun t2 H5 o5 w5 t2l t2u => ?_
    repeat walk_at "rd"
    refine u_draw w5 (by omega) (by decide) (by decide) fun t3 H6 o6 w6 t3l t3u => ?_
    repeat walk_at "rd"
    refine u_draw w6 (by omega) (by decide) (by decide) fun t4 H7 o7 w7 t4l t4u => ?_
    have o7 := (((o3.trans o4).trans o5).trans o6).trans o7
    repeat walk_at "rd"
    refine w_lst4 fun a8 H8 s8 n8 h8 => ?_
    have o8 := o7.same s8
    have w8 := w7.same s8
    have ne8 := w7.ne n8
    repeat walk_at "rd"
    refine u_draw w8 (by omega) (by decide) (by decide) fun t5 H9 o9 w9 t5l t5u => ?_
    repeat walk_at "rd"
    refine u_draw w9 (by omega) (by decide) (by decide) fun t6 H10 o10 w10 t6l t6u => ?_
    have o10 := (o8.trans o9).trans o10
    have h8 : H10 a8 = _ := (‹Oth p H9 H10›) _ _ ne8 ((‹Oth p H8 H9›) _ _ ne8 h8)
    repeat walk_at "rd"
    refine w_lst2 fun a11 H11 s11 n11 h11 => ?_
    repeat walk_at "rd"
    refine w_cat (s11 _ _ h8) h11 (by show 4 + 2 ≤ sizeLine; decide) fun a12 H12 s12 n12 h12 => ?_
    have o12 := (o10.same s11).same s12
    have w12 := (w10.same s11).same s12
    have ne12 := (w10.same s11).ne n12
    repeat walk_at "rd"
    refine w_lst4 fun a13 H13 s13 n13 h13 => ?_
    repeat walk_at "rd"
    refine u_one (w12.same s13) (by omega) h13 (w12.ne n13) (by decide) (by decide) fun v H14 hv o14 w14 => ?_
    have k14 : H14 a12 = _ := o14 _ _ ne12 (s13 _ _ h12)
    have o14 := (o12.same s13).trans o14
    obtain ⟨bt, rfl, hbt⟩ : ∃ bt, v = .int bt ∧ 0 ≤ bt ∧ bt ≤ 53 := by
      simp only [List.mem_cons, List.not_mem_nil, or_false] at hv
      rcases hv with rfl | rfl | rfl | rfl <;> exact ⟨_, rfl, by decide, by decide⟩
    repeat walk_at "rd"
    refine u_great w14 (by omega) hbt.1 (by omega) fun t H15 o15 w15 tl tu => ?_
    have k15 : H15 a12 = _ := o15 _ _ ne12 k14
    have o15 := o14.trans o15
    repeat walk_at "rd"
    refine u_one w15 (by omega) k15 ne12 (by show 0 < 6; decide) (by show 6 ≤ 1000; decide) fun v H16 hv o16 w16 => ?_
    have o16 := o15.trans o16
    obtain ⟨pw, rfl, hp⟩ : ∃ pw, v = .int pw ∧ -1074 ≤ pw ∧ pw ≤ 1100 := by
      simp only [List.cons_append, List.nil_append, List.mem_cons, List.not_mem_nil, or_false] at hv
      rcases hv with rfl | rfl | rfl | rfl | rfl | rfl <;> exact ⟨_, rfl, by omega, by omega⟩
    repeat walk_at "rd"
    refine w_tup3 fun a4 H4 s4 n4 h4 => ?_
    refine q a4 H4 sg t (if pw < 971 then pw else 971) (o16.same s4) ((w16.mono (by omega)).same s4) h4 ⟨hs, tl, ?_, by split <;> omega, by split <;> omega⟩
    have := pow_mono (a := bt.toNat) (b := 53) (by omega)
    rw [show (2 : Int) ^ 53 = 9007199254740992 by decide] at this
    omega
theorem u_fin {p : Addr} {n : Nat} {H : Hp} {Q : VK} {E : XK} (hw : Well n H p) (hn : n < 800000) (q : ∀ q H' s t pw, Oth p H H' → Well (n + 40) H' p → H' q = some (.tup [.int s, .int t, .int pw]) → FinA s t pw → Q (.ref q) H') : spFin ([V.ref p] ++ []) H Q E :=
  ⟨p, n, rfl, hw, hn, q⟩
theorem FinA.arg {s t p : Int} (h : FinA s t p) : Arg s (.int t) p (.fin s (red t p).1 (red t p).2) := by
  obtain ⟨hs, t0, t1, p0, p1⟩ := h
  refine .inl ⟨t, rfl, t0, hs, red_fits t0 (by omega) p0 ?_, rfl⟩
  have := bits_small t0 (k := 53) (by rw [show (2 : Int) ^ 53 = 9007199254740992 by decide]; exact t1)
  omega
/-! ### a float -/
def spFlt (CF : Addr) : Sp := fun vs H Q _ => ∃ (p : Addr) (n : Nat), vs = [.ref p] ∧ Well n H p ∧ n < 700000 ∧
  ∀ x f H', Oth p H H' → Well (n + 50) H' p → FlAt CF H' x f → f.ok → Q (.ref x) H'
theorem sc_law_float : FnScope ["well", "sign", "top", "power"] ["well"] (defScope s_law_float) := ⟨rfl, rfl, rfl, by decide +kernel, rfl, by decide +kernel, by decide +kernel⟩
theorem ok_float (T : AllM K mg CF) (k_law_draw : Kn P w K mg base CX0 1 "_law_draw" ["well", "many"] spDraw) (k_law_one : Kn P w K mg base CX0 2 "_law_one" ["well", "some"] spOne) (k_law_finite : Kn P w K mg base CX0 3 "_law_finite" ["well"] spFin)
    (k_Float_init : KnC P w K mg base CX0 2 "Float" CF ["self", "sign", "top", "power"] (spInit CF)) : Kn P w K mg base CX0 4 "_law_float" ["well"] (spFlt CF) := by
  refine T.x_float.kn fun f fd F => ?_
  refine F.ok sc_law_float (fun vs H Q E h => ?_) (fun cdv A outer s H vs Q E hr h => ?_)
  · obtain ⟨p, n, rfl, _⟩ := h
    rfl
  · obtain ⟨p, n, rfl, hw, hn, q⟩ := h
    refine ⟨_, (pss_cons (ps_if (pt_cmpR op_eq (pk k_law_draw hr (pa_cons (pv 0) (pa_cons pe_int pa_nil))) pe_int (nomark _)) (pss_one (ps_ret (pk k_law_one hr (pa_cons (pv 0) (pa_cons (pe_lst (pa_cons (pkC k_Float_init hr (pa_cons pe_int (pa_cons pe_str (pa_cons pe_int pa_nil)))) (pa_cons (pkC k_Float_init hr (pa_cons (pe_un un_neg pe_int) (pa_cons pe_str (pa_cons pe_int pa_nil)))) (pa_cons (pkC k_Float_init hr (pa_cons pe_int (pa_cons pe_str (pa_cons pe_int pa_nil)))) pa_nil)))) pa_nil))))) pss_nil)
      (pss_cons (ps_asg (pk k_law_finite hr (pa_cons (pv 0) pa_nil)) (pg_tup (by rfl) (pgs_cons (pg_name (i := 1) sc_law_float.nd rfl (Or.inl rfl)) (pgs_cons (pg_name (i := 2) sc_law_float.nd rfl (Or.inl rfl)) (pgs_cons (pg_name (i := 3) sc_law_float.nd rfl (Or.inl rfl)) pgs_nil)))))
      (pss_one (ps_ret (pkC k_Float_init hr (pa_cons (pv 1) (pa_cons (pv 2) (pa_cons (pv 3) pa_nil)))))))), ?_⟩
    repeat walk_at "rd"
    refine u_draw hw (by omega) (by decide) (by decide) fun r H1 o1 w1 r0 r1 => ?_
    repeat walk_at "rd"
    refine iD (fun _ => ?_) (fun _ => ?_)
    · repeat walk_at "rd"
      refine u_Float (.inr (.inl ⟨rfl, rfl, .inl rfl, rfl⟩)) fun x1 H2 s2 n2 h2 => ?_
      repeat walk_at "rd"
      refine u_Float (.inr (.inl ⟨rfl, rfl, .inr rfl, rfl⟩)) fun x2 H3 s3 n3 h3 => ?_
      repeat walk_at "rd"
      refine u_Float (.inr (.inr ⟨rfl, rfl, rfl, rfl⟩)) fun x3 H4 s4 n4 h4 => ?_
      repeat walk_at "rd"
      refine w_lst3 fun a5 H5 s5 n5 h5 => ?_
      repeat walk_at "rd"
      have w5 := (((w1.same s2).same s3).same s4).same s5
      refine u_one w5 (by omega) h5 ((((w1.same s2).same s3).same s4).ne n5) (by show 0 < 3; decide) (by show 3 ≤ 1000; decide) fun v H6 hv o6 w6 => ?_
      have o7 := ((((o1.same s2).same s3).same s4).same s5).trans o6
      have k1 : ∀ x f, x ≠ p → FlAt CF H5 x f → FlAt CF H6 x f := fun x f hx ⟨dx, e⟩ => ⟨dx, o6 _ _ hx e⟩
      simp only [List.mem_cons, List.not_mem_nil, or_false] at hv
      rcases hv with rfl | rfl | rfl
      · exact q x1 _ H6 o7 (w6.mono (by omega)) (k1 _ _ (w1.ne n2) (((h2.same s3).same s4).same s5)) (.inl rfl)
      · exact q x2 _ H6 o7 (w6.mono (by omega)) (k1 _ _ ((w1.same s2).ne n3) ((h3.same s4).same s5)) (.inr rfl)
      · exact q x3 _ H6 o7 (w6.mono (by omega)) (k1 _ _ (((w1.same s2).same s3).ne n4) (h4.same s5)) trivial
    · repeat walk_at "rd"
      refine u_fin w1 (by omega) fun a2 H2 s t pw o2 w2 h2 fa => ?_
      refine w_gtup h2 rfl ?_
      repeat walk_at "rd"
      refine u_Float fa.arg fun x H3 s3 n3 h3 => ?_
      exact q x _ H3 ((o1.trans o2).same s3) ((w2.same s3).mono (by omega)) h3 fa.arg.ok
end
end Nu

set_option Elab.async false
set_option linter.all false
set_option maxRecDepth 100000
set_option autoImplicit false
set_option maxHeartbeats 4000000
namespace Nu
open PySem PySem.Spec PyProof.Rows L2 Rd LamX
local macro_rules | `(tactic| walk_at "hp") => `(tactic| first | assumption | (refine same_get ?sm ?_; (case sm => assumption); walk_at "hp"))
local macro_rules | `(tactic| walk_at "rd") => `(tactic| first
  | with_reducible refine w_nx ?_
  | with_reducible refine w_rt ?_
  | with_reducible refine w_bk ?_
  | with_reducible refine w_ct ?_
  | with_reducible refine w_seq ?_
  | with_reducible refine w_next ?_
  | with_reducible refine w_ret ?_
  | with_reducible refine w_ifS ?_
  | with_reducible refine w_asg ?_
  | with_reducible refine w_name ?_
  | with_reducible refine w_par ?_
  | with_reducible refine w_parI ?_
  | with_reducible refine w_ii ?_
  | with_reducible refine w_i1 ?_
  | with_reducible refine w_drop ?_
  | with_reducible refine w_sFld ?_
  | ((with_reducible refine' w_var ?rdh ?_); (case rdh => exact rfl))
  | with_reducible refine w_c ?_
  | with_reducible refine w_op ?_
  | with_reducible refine w_un ?_
  | with_reducible refine w_I0 ?_
  | with_reducible refine w_U ?_
  | with_reducible refine w_bits ?_
  | with_reducible refine w_bitsI ?_
  | with_reducible refine w_tup ?_
  | with_reducible refine w_lst ?_
  | with_reducible refine w_nil ?_
  | with_reducible refine w_cons ?_
  | with_reducible refine w_fld ?_
  | with_reducible refine w_call ?_
  | with_reducible refine w_make ?_
  | with_reducible refine w_gsub ?_
  | with_reducible refine w_int1 ?_
  | with_reducible refine w_intB ?_
  | with_reducible refine w_for ?_
  | with_reducible refine w_rng1 ?_
  | with_reducible refine w_iList ?_
  | with_reducible refine w_iTup ?_
  | with_reducible refine w_makeD ?_
  | with_reducible refine w_nn ?_
  | with_reducible refine w_subB ?_
  | with_reducible refine w_meth ?_
  | with_reducible refine w_cb ?_
  | with_reducible refine w_test ?_
  | with_reducible refine w_B ?_
  | with_reducible refine w_bl ?_
  | with_reducible refine w_andV ?_
  | with_reducible refine w_orV ?_
  | with_reducible refine w_notV ?_
  | with_reducible refine w_and ?_
  | with_reducible refine w_or ?_
  | with_reducible refine w_not ?_
  | with_reducible refine w_if ?_
  | with_reducible refine w_gnil ?_
  | with_reducible refine w_gcons ?_
  | with_reducible refine iT ?_
  | with_reducible refine iF ?_
  | with_reducible refine w_eqI ?_
  | with_reducible refine w_neI ?_
  | with_reducible refine w_eqS ?_
  | with_reducible refine w_eqIS ?_
  | with_reducible refine w_eqSI ?_)

abbrev s_Float_eq : Stmt := inClass (top 12) 2
abbrev s_Thrown_init : Stmt := inClass (top 5) 0
abbrev s_whole_of : Stmt := top 22
abbrev s_whole_or_thrown : Stmt := top 24
abbrev s_by_bits : Stmt := top 25
abbrev s_arith : Stmt := top 23
abbrev s_wrapped : Stmt := top 20
abbrev s_bit_not : Stmt := top 33
abbrev s_negated : Stmt := top 32
abbrev s_law_int : Stmt := top 41
abbrev s_law_number : Stmt := top 42
abbrev s_law_whole : Stmt := top 43
abbrev s_law_bits : Stmt := top 44
abbrev s_law_number_of : Stmt := top 45
abbrev s_law_due : Stmt := top 46
abbrev s_law_said : Stmt := top 47
abbrev s_law_pair_right : Stmt := top 48
abbrev s_law : Stmt := top 49
structure AllP (K : PySem.W.Frag) (mg : Str → Option Value) (CF CE CC : Addr) : Prop extends AllM K mg CF where
  b_list : mg "list" = none
  b_zip : mg "zip" = none
  b_AE : mg "ArithmeticError" = none
  v_AE : PySem.W.findCls K (.type "ArithmeticError") (.type "type") "__init__" = some (.val (.builtin "ArithmeticError.__init__"))
  g_Thrown : mg "Thrown" = some (.ref CE)
  a_Thrown : AexC K CE
  xf_Thrown : XfC K CE
  xn_value : PySem.W.findIn K (.ref CE) "value" = some none
  xn_level : PySem.W.findIn K (.ref CE) "level" = some none
  e_Thrown : PySem.W.exmOne K (.ref CE) (.ref CE) = some true
  q_Float : EqC K CF
  x_eq : TxM K CF "__eq__" "Float.__eq__" s_Float_eq ["self", "other"]
  x_whole_of : Tx K mg "whole_of" "whole_of" s_whole_of ["number"]
  x_whole_or : Tx K mg "whole_or_thrown" "whole_or_thrown" s_whole_or_thrown ["number"]
  x_by_bits : Tx K mg "by_bits" "by_bits" s_by_bits ["word", "one", "other"]
  x_arith : Tx K mg "arith" "arith" s_arith ["word", "one", "other"]
  x_wrapped : Tx K mg "wrapped" "wrapped" s_wrapped ["number"]
  x_bit_not : Tx K mg "bit_not" "bit_not" s_bit_not ["number"]
  x_negated : Tx K mg "negated" "negated" s_negated ["number"]
  x_int : Tx K mg "_law_int" "_law_int" s_law_int ["well"]
  x_number : Tx K mg "_law_number" "_law_number" s_law_number ["well"]
  x_lwhole : Tx K mg "_law_whole" "_law_whole" s_law_whole ["number"]
  x_bits : Tx K mg "_law_bits" "_law_bits" s_law_bits ["number"]
  x_number_of : Tx K mg "_law_number_of" "_law_number_of" s_law_number_of ["bits"]
  x_due : Tx K mg "_law_due" "_law_due" s_law_due ["word", "one", "other"]
  x_said : Tx K mg "_law_said" "_law_said" s_law_said ["ask"]
  x_pair : ∃ f fd, mg "_law_pair_right" = some (.ref f) ∧ Fun K "_law_pair_right" "_law_pair_right" s_law_pair_right f fd ∧ Binds K fd ["one", "other"] [] ∧ fd.code = .ref CC
  x_law : Tx K mg "law" "law" s_law ["script"]
section
variable {P : Program} {w : World} {K : PySem.W.Frag} {mg : Str → Option Value} {base : Heap} {CF : Addr}
/-! ### == of floats -/
def fdat : V → PyData
  | .int t => .int t
  | .str x => .str x
  | _ => .none
def fall (f : Fl) : PyData := .tuple [.int f.s, fdat f.t, .int f.p]
def feq (f g : Fl) : Bool := PyData.eqv (fall f) (fall g)
theorem feq_self (f : Fl) : feq f f = true := by
  cases f <;> simp [feq, fall, fdat, Fl.s, Fl.t, Fl.p, PyData.eqv, PyData.eqvAll]
theorem fdat_dp (f : Fl) (H : Hp) : Dp K H f.t (fdat f.t) := by
  cases f with
  | fin s t p => exact .int t
  | inf s => exact .str _
  | nan => exact .str _
theorem fall_dp {f : Fl} {H : Hp} {a : Addr} (h : H a = some (.tup [.int f.s, f.t, .int f.p])) : Dp K H (.ref a) (fall f) :=
  .tup (SqT.of h) (.cons (.int _) (.cons (fdat_dp f H) (.cons (.int _) .nil)))
theorem fall_shaped (f : Fl) : SeqAt.shaped (fall f) = true := by
  have e1 : PyData.canLay0 (.str "inf") = true := by decide +kernel
  have e2 : PyData.canLay0 (.str "nan") = true := by decide +kernel
  have e3 : ∀ i : Int, PyData.canLay0 (.int i) = true := fun i => by simp [PyData.canLay0]
  have e4 : ∀ a b c : PyData, PyData.canLay0 a = true → PyData.canLay0 b = true → PyData.canLay0 c = true → PyData.canLay0 (.tuple [a, b, c]) = true := fun a b c h1 h2 h3 => by simp [PyData.canLay0, PyData.canLayAll0, h1, h2, h3]
  have e5 : PyData.canLay0 (fall f) = true := by
    cases f with
    | fin s t p => exact e4 _ _ _ (e3 _) (e3 _) (e3 _)
    | inf s => exact e4 _ _ _ (e3 _) e1 (e3 _)
    | nan => exact e4 _ _ _ (e3 _) e2 (e3 _)
  have e6 : (fall f).depth ≤ 64 := by
    cases f <;> simp [fall, fdat, Fl.t, PyData.depth, PyData.depthAll]
  unfold SeqAt.shaped
  rw [e5, decide_eq_true e6]
  rfl
def spFEq (CF : Addr) : Sp := fun vs H Q _ => ∃ a b f g, vs = [.ref a, .ref b] ∧ FlAt CF H a f ∧ FlAt CF H b g ∧ ∀ H', Same H H' → Q (.bl (feq f g)) H'
theorem sc_Float_eq : FnScope ["self", "other"] ["self", "other"] (defScope s_Float_eq) := ⟨rfl, rfl, rfl, by decide +kernel, rfl, by decide +kernel, by decide +kernel⟩
theorem ok_eq {CE CC : Addr} (T : AllP K mg CF CE CC) : KnM P w K mg base CX0 1 CF "__eq__" ["self", "other"] (spFEq CF) := by
  refine T.x_eq.kn fun f fd F => ?_
  refine F.ok sc_Float_eq (fun vs H Q E h => ?_) (fun cdv A outer s H vs Q E hr h => ?_)
  · obtain ⟨a, b, f, g, rfl, _⟩ := h
    rfl
  · obtain ⟨a, b, f, g, rfl, hf, hg, q⟩ := h
    refine ⟨_, (pss_cons (ps_if (pt_not (pt_val (pe_callB call_isi (by rfl) T.b_isinstance boot_isinstance (pa_cons (pv 1) (pa_cons (pg "Float" T.g_Float (rref _)) pa_nil))))) (pss_one ps_never) pss_nil)
      (pss_one (ps_ret (pe_cmpR (op_eqD hr.units) (pe_tup (pa_cons (pe_fld (pv 0) rfl) (pa_cons (pe_fld (pv 0) rfl) (pa_cons (pe_fld (pv 0) rfl) pa_nil)))) (pe_tup (pa_cons (pe_fld (pv 1) rfl) (pa_cons (pe_fld (pv 1) rfl) (pa_cons (pe_fld (pv 1) rfl) pa_nil)))) (nomark _))))), ?_⟩
    obtain ⟨dx, h1⟩ := id hf
    obtain ⟨dy, h2⟩ := id hg
    obtain ⟨t, ty, i1, i2, i3, i4⟩ := says_fl T.toAll h2
    repeat walk_at "rd"
    refine w_isi (.own CF) ty i4 ?_
    repeat walk_at "rd"
    refine iF ?_
    repeat walk_at "rd"
    refine w_fldI h1 T.l_Float T.n_sign (flds_s _ _ _) ?_
    repeat walk_at "rd"
    refine w_fldI h1 T.l_Float T.n_top (flds_t _ _ _) ?_
    repeat walk_at "rd"
    refine w_fldI h1 T.l_Float T.n_power (flds_p _ _ _) ?_
    repeat walk_at "rd"
    refine w_tup3 fun a1 H1 s1 n1 e1 => ?_
    repeat walk_at "rd"
    refine w_fldI (s1 _ _ h2) T.l_Float T.n_sign (flds_s _ _ _) ?_
    repeat walk_at "rd"
    refine w_fldI (s1 _ _ h2) T.l_Float T.n_top (flds_t _ _ _) ?_
    repeat walk_at "rd"
    refine w_fldI (s1 _ _ h2) T.l_Float T.n_power (flds_p _ _ _) ?_
    repeat walk_at "rd"
    refine w_tup3 fun a2 H2 s2 n2 e2 => ?_
    exact w_eqD (fall_dp (s2 _ _ e1)) (fall_dp e2) (fall_shaped f) (fall_shaped g) (q H2 (s1.trans s2))
theorem u_eqF {a b : Addr} {f : Fl} {g : Bool → Bool} {H : Hp} {Q : VK} (ha : FlAt CF H a f) (hb : FlAt CF H b f) (q : ∀ H', Same H H' → Q (.bl (g true)) H') : rOwn CF g (spFEq CF) (.ref a) (.ref b) H Q := by
  obtain ⟨dx, h1⟩ := id ha
  obtain ⟨dy, h2⟩ := id hb
  exact w_own h1 h2 ⟨a, b, f, f, rfl, ha, hb, fun H' s => ⟨_, rfl, by rw [feq_self]; exact q H' s⟩⟩
end
end Nu

set_option Elab.async false
set_option linter.all false
set_option maxRecDepth 100000
set_option autoImplicit false
set_option maxHeartbeats 4000000
namespace Nu
open PySem PySem.Spec PyProof.Rows L2 Rd
local macro_rules | `(tactic| walk_at "hp") => `(tactic| first | assumption | (refine same_get ?sm ?_; (case sm => assumption); walk_at "hp"))
local macro_rules | `(tactic| walk_at "rd") => `(tactic| first
  | with_reducible refine w_nx ?_
  | with_reducible refine w_rt ?_
  | with_reducible refine w_bk ?_
  | with_reducible refine w_ct ?_
  | with_reducible refine w_seq ?_
  | with_reducible refine w_next ?_
  | with_reducible refine w_ret ?_
  | with_reducible refine w_ifS ?_
  | with_reducible refine w_asg ?_
  | with_reducible refine w_name ?_
  | with_reducible refine w_par ?_
  | with_reducible refine w_parI ?_
  | with_reducible refine w_ii ?_
  | with_reducible refine w_i1 ?_
  | with_reducible refine w_drop ?_
  | with_reducible refine w_sFld ?_
  | ((with_reducible refine' w_var ?rdh ?_); (case rdh => exact rfl))
  | with_reducible refine w_c ?_
  | with_reducible refine w_op ?_
  | with_reducible refine w_un ?_
  | with_reducible refine w_I0 ?_
  | with_reducible refine w_U ?_
  | with_reducible refine w_bits ?_
  | with_reducible refine w_bitsI ?_
  | with_reducible refine w_tup ?_
  | with_reducible refine w_lst ?_
  | with_reducible refine w_nil ?_
  | with_reducible refine w_cons ?_
  | with_reducible refine w_fld ?_
  | with_reducible refine w_call ?_
  | with_reducible refine w_make ?_
  | with_reducible refine w_gsub ?_
  | with_reducible refine w_int1 ?_
  | with_reducible refine w_intB ?_
  | with_reducible refine w_for ?_
  | with_reducible refine w_rng1 ?_
  | with_reducible refine w_iList ?_
  | with_reducible refine w_iTup ?_
  | with_reducible refine w_makeD ?_
  | with_reducible refine w_nn ?_
  | with_reducible refine w_subB ?_
  | with_reducible refine w_meth ?_
  | with_reducible refine w_cb ?_
  | with_reducible refine w_test ?_
  | with_reducible refine w_B ?_
  | with_reducible refine w_bl ?_
  | with_reducible refine w_andV ?_
  | with_reducible refine w_orV ?_
  | with_reducible refine w_notV ?_
  | with_reducible refine w_and ?_
  | with_reducible refine w_or ?_
  | with_reducible refine w_not ?_
  | with_reducible refine w_if ?_
  | with_reducible refine w_gnil ?_
  | with_reducible refine w_gcons ?_
  | with_reducible refine iT ?_
  | with_reducible refine iF ?_
  | with_reducible refine w_eqI ?_
  | with_reducible refine w_neI ?_
  | with_reducible refine w_eqS ?_
  | with_reducible refine w_eqIS ?_
  | with_reducible refine w_eqSI ?_)

/-! ### the int that a number is -/
def inW (n : Int) : Bool := decide (-9223372036854775808 ≤ n) && decide (n ≤ 9223372036854775807)
theorem inW_iff {n : Int} : inW n = true ↔ In64 n := by
  unfold inW In64
  simp only [Bool.and_eq_true, decide_eq_true_eq]
  omega
def wholeM : Nm → Option Int
  | .int i => some i
  | .fl (.fin s t p) => if p < 0 then none else if 64 < bits t + p then none else if inW (s * (t * 2 ^ p.toNat)) = true then some (s * (t * 2 ^ p.toNat)) else none
  | .fl _ => none
theorem wholeM_fin (s t p : Int) : wholeM (.fl (.fin s t p)) = if p < 0 then none else if 64 < bits t + p then none else if inW (s * (t * 2 ^ p.toNat)) = true then some (s * (t * 2 ^ p.toNat)) else none := rfl
def ov : Option Int → L2.V
  | some i => .int i
  | none => .non
/-- a number whose int, if it is one, is in 64 bits -/
def NmI : Nm → Prop
  | .int i => In64 i
  | .fl _ => True
theorem wholeM_in {n : Nm} {i : Int} (h : NmI n) (e : wholeM n = some i) : In64 i := by
  match n, h, e with
  | .int j, h, e => cases e; exact h
  | .fl (.fin s t p), _, e =>
    rw [wholeM_fin] at e
    split at e
    · cases e
    · split at e
      · cases e
      · split at e
        · rename_i c
          rw [← Option.some.inj e]
          exact inW_iff.1 c
        · cases e
  | .fl (.inf _), _, e => cases e
  | .fl .nan, _, e => cases e
section
variable {P : Program} {w : World} {K : PySem.W.Frag} {mg : Str → Option Value} {base : Heap} {CF CE CC : Addr}
theorem u_isF (T : AllP K mg CF CE CC) {H : Hp} {x : L2.V} {n : Nm} (h : NmAt CF H x n) : ∃ t, TyX K H x t ∧ PySem.W.kitOne K t (.ref CF) = some (match n with | .int _ => false | .fl _ => true) ∧ PySem.W.kitOne K t (.type "int") = some (match n with | .int _ => true | .fl _ => false) := by
  cases n with
  | int i =>
    obtain ⟨rfl, _⟩ := h
    obtain ⟨t, ty, i1, i2, i3, i4⟩ := says_int (i := i) (H := H) T.toAll
    exact ⟨t, ty, i4, i1⟩
  | fl f =>
    obtain ⟨a, rfl, ⟨dx, e⟩, _⟩ := h
    obtain ⟨t, ty, i1, i2, i3, i4⟩ := says_fl T.toAll e
    exact ⟨t, ty, i4, i1⟩
def spWhole (CF : Addr) : Sp := fun vs H Q _ => ∃ x n, vs = [x] ∧ NmAt CF H x n ∧ ∀ H', Same H H' → Q (ov (wholeM n)) H'
theorem ratT_nn {s t p : Int} (h : ¬ p < 0) : ratT s t p = s * (t * 2 ^ p.toNat) := by unfold ratT; rw [if_neg h]
theorem sc_whole_of : FnScope ["number", "whole"] ["number"] (defScope s_whole_of) := ⟨rfl, rfl, rfl, by decide +kernel, rfl, by decide +kernel, by decide +kernel⟩
theorem ok_whole_of (T : AllP K mg CF CE CC) (k_Float_is_finite : KnM P w K mg base CX0 1 CF "is_finite" ["self"] (spFinite CF)) (k_Float_ratio : KnM P w K mg base CX0 1 CF "ratio" ["self"] (spRatio CF)) : Kn P w K mg base CX0 2 "whole_of" ["number"] (spWhole CF) := by
  refine T.x_whole_of.kn fun f fd F => ?_
  refine F.ok sc_whole_of (fun vs H Q E h => ?_) (fun cdv A outer s H vs Q E hr h => ?_)
  · obtain ⟨x, n, rfl, _⟩ := h
    rfl
  · obtain ⟨x, n, rfl, hn, q⟩ := h
    refine ⟨_, (pss_cons (ps_if (pt_not (pt_val (pe_callB call_isi (by rfl) T.b_isinstance boot_isinstance (pa_cons (pv 0) (pa_cons (pg "Float" T.g_Float (rref _)) pa_nil))))) (pss_one (ps_ret (pv 0))) pss_nil)
      (pss_cons (ps_if (PW.pt (pw_or (pt_not (pt_val (pkM0 k_Float_is_finite T.l_Float hr (pv 0) rfl))) (pw_or (pt_cmpR op_lt (pe_fld (pv 0) rfl) pe_int (nomark _)) (pw_or1 (pt_cmpR op_gt (pe_op op_add (pe_bits (pe_fld (pv 0) rfl)) (pe_fld (pv 0) rfl)) pe_int (nomark _)))))) (pss_one (ps_ret pe_non)) pss_nil)
      (pss_cons (ps_set (i := 1) sc_whole_of.nd rfl (Or.inl rfl) (pe_ix ix_tup (pkM0 k_Float_ratio T.l_Float hr (pv 0) rfl) pe_int (fun _ _ => rfl)))
      (pss_one (ps_ret (pe_ifExp (pt_chain op_le op_le (pgE "LEAST" T.c_LEAST) (pv 1) (pgE "MOST" T.c_MOST)) (pv 1) pe_non)))))), ?_⟩
    obtain ⟨ty, tyx, i1, _⟩ := u_isF T hn
    repeat walk_at "rd"
    refine w_isi (.own CF) tyx i1 ?_
    repeat walk_at "rd"
    match n, hn, q with
    | .int i, hn, q =>
      obtain ⟨rfl, _⟩ := hn
      refine iT ?_
      repeat walk_at "rd"
      exact q H (Same.refl _)
    | .fl (.inf s), hn, q =>
      obtain ⟨a, rfl, hf, ok⟩ := hn
      obtain ⟨dx, h1⟩ := id hf
      refine iF ?_
      repeat walk_at "rd"
      refine w_methI h1 (lk_fin _ _ _) ?_
      repeat walk_at "rd"
      refine ⟨a, _, rfl, hf, ?_⟩
      rw [show (Fl.inf s).isFin = false from rfl]
      repeat walk_at "rd"
      refine iT ?_
      repeat walk_at "rd"
      exact q H (Same.refl _)
    | .fl .nan, hn, q =>
      obtain ⟨a, rfl, hf, ok⟩ := hn
      obtain ⟨dx, h1⟩ := id hf
      refine iF ?_
      repeat walk_at "rd"
      refine w_methI h1 (lk_fin _ _ _) ?_
      repeat walk_at "rd"
      refine ⟨a, _, rfl, hf, ?_⟩
      rw [show Fl.nan.isFin = false from rfl]
      repeat walk_at "rd"
      refine iT ?_
      repeat walk_at "rd"
      exact q H (Same.refl _)
    | .fl (.fin s t p), hn, q =>
      obtain ⟨a, rfl, hf, ok⟩ := hn
      obtain ⟨dx, h1⟩ := id hf
      have h1 : H a = some (.ins CF dx (flds s (.int t) p)) := h1
      rw [wholeM_fin] at q
      refine iF ?_
      repeat walk_at "rd"
      refine w_methI h1 (lk_fin _ _ _) ?_
      repeat walk_at "rd"
      refine ⟨a, _, rfl, hf, ?_⟩
      rw [show (Fl.fin s t p).isFin = true from rfl]
      repeat walk_at "rd"
      refine iF ?_
      repeat walk_at "rd"
      refine w_fldI h1 T.l_Float T.n_power (flds_p _ _ _) ?_
      repeat walk_at "rd"
      refine iD (fun c1 => ?_) (fun c1 => ?_)
      · rw [if_pos (show p < 0 from c1)] at q
        repeat walk_at "rd"
        exact q H (Same.refl _)
      rw [if_neg (show ¬ p < 0 from c1)] at q
      repeat walk_at "rd"
      refine w_fldI h1 T.l_Float T.n_top (flds_t _ _ _) ?_
      repeat walk_at "rd"
      refine w_fldI h1 T.l_Float T.n_power (flds_p _ _ _) ?_
      repeat walk_at "rd"
      refine iD (fun c2 => ?_) (fun c2 => ?_)
      · rw [if_pos (show 64 < bits t + p from c2)] at q
        repeat walk_at "rd"
        exact q H (Same.refl _)
      rw [if_neg (show ¬ 64 < bits t + p from c2)] at q
      repeat walk_at "rd"
      refine w_methI h1 (lk_rat _ _ _) ?_
      repeat walk_at "rd"
      refine ⟨a, s, t, p, rfl, hf, ok, fun r H2 s2 n2 e2 => ?_⟩
      repeat walk_at "rd"
      refine w_ixT e2 rfl ?_
      repeat walk_at "rd"
      rw [ratT_nn c1]
      unfold inW at q
      repeat walk_at "rd"
      refine w_chain ?_
      repeat walk_at "rd"
      refine iD (fun c3 => ?_) (fun c3 => ?_)
      · repeat walk_at "rd"
        rw [decide_eq_true c3, Bool.true_and] at q
        refine iD (fun c4 => ?_) (fun c4 => ?_)
        · rw [if_pos (decide_eq_true c4)] at q
          repeat walk_at "rd"
          exact q H2 s2
        · rw [if_neg (by rw [decide_eq_false c4]; exact Bool.false_ne_true)] at q
          repeat walk_at "rd"
          exact q H2 s2
      · rw [decide_eq_false c3, Bool.false_and, if_neg Bool.false_ne_true] at q
        repeat walk_at "rd"
        exact q H2 s2
/-! ### the law's own -/
theorem sc_law_whole : FnScope ["number", "whole"] ["number"] (defScope s_law_whole) := ⟨rfl, rfl, rfl, by decide +kernel, rfl, by decide +kernel, by decide +kernel⟩
theorem ok_lwhole (T : AllP K mg CF CE CC) : Kn P w K mg base CX0 1 "_law_whole" ["number"] (spWhole CF) := by
  refine T.x_lwhole.kn fun f fd F => ?_
  refine F.ok sc_law_whole (fun vs H Q E h => ?_) (fun cdv A outer s H vs Q E hr h => ?_)
  · obtain ⟨x, n, rfl, _⟩ := h
    rfl
  · obtain ⟨x, n, rfl, hn, q⟩ := h
    refine ⟨_, (pss_cons (ps_if (pt_val (pe_callB call_isi (by rfl) T.b_isinstance boot_isinstance (pa_cons (pv 0) (pa_cons (pe_bltn (by rfl) T.b_int boot_int (rty _)) pa_nil)))) (pss_one (ps_ret (pv 0))) pss_nil)
      (pss_cons (ps_if (PW.pt (pw_or (pt_val (pe_callB call_isi (by rfl) T.b_isinstance boot_isinstance (pa_cons (pe_fld (pv 0) rfl) (pa_cons (pe_bltn (by rfl) T.b_str boot_str (rty _)) pa_nil)))) (pw_or (pt_cmpR op_lt (pe_fld (pv 0) rfl) pe_int (nomark _)) (pw_or1 (pt_cmpR op_gt (pe_fld (pv 0) rfl) pe_int (nomark _)))))) (pss_one (ps_ret pe_non)) pss_nil)
      (pss_cons (ps_set (i := 1) sc_law_whole.nd rfl (Or.inl rfl) (pe_op op_mulX (pe_fld (pv 0) rfl) (pe_op op_shlW (pe_fld (pv 0) rfl) (pe_fld (pv 0) rfl))))
      (pss_one (ps_ret (pe_ifExp (pt_chain op_le op_le (pe_un un_neg (pe_op op_shlW pe_int pe_int)) (pv 1) (pe_op op_sub (pe_op op_shlW pe_int pe_int) pe_int)) (pv 1) pe_non)))))), ?_⟩
    obtain ⟨ty, tyx, _, i1⟩ := u_isF T hn
    have e63 : (1 : Int) * 2 ^ (63 : Int).toNat = 9223372036854775808 := by decide
    repeat walk_at "rd"
    refine w_isi (.ty "int") tyx i1 ?_
    repeat walk_at "rd"
    match n, hn, q with
    | .int i, hn, q =>
      obtain ⟨rfl, _⟩ := hn
      refine iT ?_
      repeat walk_at "rd"
      exact q H (Same.refl _)
    | .fl (.inf s), hn, q =>
      obtain ⟨a, rfl, hf, ok⟩ := hn
      obtain ⟨dx, h1⟩ := id hf
      refine iF ?_
      repeat walk_at "rd"
      refine w_fldI h1 T.l_Float T.n_top (flds_t _ _ _) ?_
      repeat walk_at "rd"
      refine w_isi (.ty "str") (.base (.str _)) (kit_ty (b := "str") (r := true) (by decide +kernel)) ?_
      repeat walk_at "rd"
      exact q H (Same.refl _)
    | .fl .nan, hn, q =>
      obtain ⟨a, rfl, hf, ok⟩ := hn
      obtain ⟨dx, h1⟩ := id hf
      refine iF ?_
      repeat walk_at "rd"
      refine w_fldI h1 T.l_Float T.n_top (flds_t _ _ _) ?_
      repeat walk_at "rd"
      refine w_isi (.ty "str") (.base (.str _)) (kit_ty (b := "str") (r := true) (by decide +kernel)) ?_
      repeat walk_at "rd"
      exact q H (Same.refl _)
    | .fl (.fin s t p), hn, q =>
      obtain ⟨a, rfl, hf, ok⟩ := hn
      obtain ⟨dx, h1⟩ := id hf
      have h1 : H a = some (.ins CF dx (flds s (.int t) p)) := h1
      obtain ⟨bs, bt, pl, pu, t0, tp⟩ := ok_bounds ok
      rw [wholeM_fin] at q
      refine iF ?_
      repeat walk_at "rd"
      refine w_fldI h1 T.l_Float T.n_top (flds_t _ _ _) ?_
      repeat walk_at "rd"
      refine w_isi (.ty "str") (.base (.int t)) (kit_ty (b := "str") (r := false) (by decide +kernel)) ?_
      repeat walk_at "rd"
      refine w_fldI h1 T.l_Float T.n_power (flds_p _ _ _) ?_
      repeat walk_at "rd"
      refine iD (fun c1 => ?_) (fun c1 => ?_)
      · rw [if_pos (show p < 0 from c1)] at q
        repeat walk_at "rd"
        exact q H (Same.refl _)
      rw [if_neg (show ¬ p < 0 from c1)] at q
      repeat walk_at "rd"
      refine w_fldI h1 T.l_Float T.n_power (flds_p _ _ _) ?_
      repeat walk_at "rd"
      have big : 64 < bits t + p → inW (s * (t * 2 ^ p.toNat)) = false ∧ t ≠ 0 := fun c => by
        have ss := ok.1
        have tz : t ≠ 0 := fun z => by
          have := ok.2.2.2.1 z
          rw [z, bits_zero, this] at c
          omega
        refine ⟨?_, tz⟩
        have e := bits_shift (n := t) (by omega) p.toNat
        have lt := Classical.byContradiction (p := 2 ^ 64 ≤ t * 2 ^ p.toNat) fun h => by
          have := (bits_lt_pow (n := t * 2 ^ p.toNat) (Int.mul_nonneg (by omega) (Int.le_of_lt (pow_pos2 _))) (k := 64)).2 (by omega)
          have : (p.toNat : Int) = p := by omega
          omega
        rw [show (2 : Int) ^ 64 = 18446744073709551616 by decide] at lt
        cases hb : inW (s * (t * 2 ^ p.toNat)) with
        | false => rfl
        | true =>
          have := inW_iff.1 hb
          unfold In64 at this
          generalize t * 2 ^ p.toNat = z at *
          rcases ss with rfl | rfl <;> omega
      refine iD (fun c2 => ?_) (fun c2 => ?_)
      · have c2 : 64 < p := c2
        rw [if_pos (show 64 < bits t + p by have := bits_nn t; omega)] at q
        repeat walk_at "rd"
        exact q H (Same.refl _)
      have c2 : ¬ 64 < p := c2
      have q : ∀ H', Same H H' → Q (ov (if inW (s * (t * 2 ^ p.toNat)) = true then some (s * (t * 2 ^ p.toNat)) else none)) H' := by
        by_cases c : 64 < bits t + p
        · rw [if_pos c] at q
          rw [(big c).1]
          exact q
        · rw [if_neg c] at q
          exact q
      clear big
      repeat walk_at "rd"
      refine w_fldI h1 T.l_Float T.n_sign (flds_s _ _ _) ?_
      repeat walk_at "rd"
      refine w_fldI h1 T.l_Float T.n_top (flds_t _ _ _) ?_
      repeat walk_at "rd"
      refine w_fldI h1 T.l_Float T.n_power (flds_p _ _ _) ?_
      refine w_I (cshl (i := t) (j := p) (by omega) (by omega) (by omega)) ?_
      refine w_I (cmulx (i := s) (j := t * 2 ^ p.toNat) (by omega) (by have := bits_mul_pow t0 p.toNat; omega)) ?_
      repeat walk_at "rd"
      unfold inW at q
      refine w_chain ?_
      repeat walk_at "rd"
      refine w_I (cshl (by decide) (by decide) (by decide)) ?_
      rw [e63]
      repeat walk_at "rd"
      refine iD (fun c3 => ?_) (fun c3 => ?_)
      · repeat walk_at "rd"
        rw [decide_eq_true c3, Bool.true_and] at q
        refine w_I (cshl (by decide) (by decide) (by decide)) ?_
        rw [e63]
        repeat walk_at "rd"
        refine iD (fun c4 => ?_) (fun c4 => ?_)
        · rw [if_pos (decide_eq_true (show s * (t * 2 ^ p.toNat) ≤ 9223372036854775807 from c4))] at q
          repeat walk_at "rd"
          exact q H (Same.refl _)
        · rw [if_neg (by rw [decide_eq_false (show ¬ s * (t * 2 ^ p.toNat) ≤ 9223372036854775807 from c4)]; exact Bool.false_ne_true)] at q
          repeat walk_at "rd"
          exact q H (Same.refl _)
      · rw [decide_eq_false c3, Bool.false_and, if_neg Bool.false_ne_true] at q
        repeat walk_at "rd"
        exact q H (Same.refl _)
end
end Nu

set_option Elab.async false
set_option linter.all false
set_option maxRecDepth 100000
set_option autoImplicit false
set_option maxHeartbeats 4000000
namespace Rd
open PySem PySem.Spec PyProof.Rows L2
section
variable {σ : L2.St} {H : Hp}
def XfK (a : Addr) (cls : Value) (d : Option Addr) (C : Addr) (f : Str) (x : V) (H1 : Hp) (Q : VK) : Prop := x = .ref a ∧ cls = .ref C ∧ ∃ (dd : Addr) (fs : List (Str × V)) (v : V), d = some dd ∧ H1 dd = some (.xd fs) ∧ fs.lookup f = some v ∧ Q v H1
theorem w_xf {a : Addr} {cls : Value} {d : Option Addr} {C : Addr} {f : Str} {te : TE} {Q : VK} (h : te σ H fun x H1 => XfK a cls d C f x H1 Q) : tXf a cls d C f te σ H Q := h
theorem w_xfI {a dd C : Addr} {f : Str} {fs : List (Str × V)} {v : V} {Q : VK} (e : H dd = some (.xd fs)) (l : fs.lookup f = some v) (q : Q v H) : XfK a (.ref C) (some dd) C f (.ref a) H Q := ⟨rfl, rfl, dd, fs, v, rfl, e, l, q⟩
theorem w_bm {K : PySem.W.Frag} {T : String} {rd : V → List V → Hp → VK → Prop} {to : TE} {ta : TA} {Q : VK} (h : to σ H fun x H1 => tyV K T x H1 ∧ ta σ H1 fun vs H2 => rd x vs H2 Q) : tBM K T rd to ta σ H Q := h
theorem thr_value (v : V) : (thrFs v).lookup ("value" : Str) = some v := by
  have h : (("value" : Str) == ("level" : Str)) = false := by decide +kernel
  simp [thrFs, List.lookup, h]
end
end Rd
namespace Nu
open PySem PySem.Spec PyProof.Rows L2 Rd
local macro_rules | `(tactic| walk_at "hp") => `(tactic| first | assumption | (refine same_get ?sm ?_; (case sm => assumption); walk_at "hp"))
local macro_rules | `(tactic| walk_at "rd") => `(tactic| first
  | with_reducible refine w_nx ?_
  | with_reducible refine w_rt ?_
  | with_reducible refine w_bk ?_
  | with_reducible refine w_ct ?_
  | with_reducible refine w_seq ?_
  | with_reducible refine w_next ?_
  | with_reducible refine w_ret ?_
  | with_reducible refine w_ifS ?_
  | with_reducible refine w_asg ?_
  | with_reducible refine w_name ?_
  | with_reducible refine w_par ?_
  | with_reducible refine w_parI ?_
  | with_reducible refine w_ii ?_
  | with_reducible refine w_i1 ?_
  | with_reducible refine w_drop ?_
  | with_reducible refine w_sFld ?_
  | ((with_reducible refine' w_var ?rdh ?_); (case rdh => exact rfl))
  | with_reducible refine w_c ?_
  | with_reducible refine w_op ?_
  | with_reducible refine w_un ?_
  | with_reducible refine w_I0 ?_
  | with_reducible refine w_U ?_
  | with_reducible refine w_bits ?_
  | with_reducible refine w_bitsI ?_
  | with_reducible refine w_tup ?_
  | with_reducible refine w_lst ?_
  | with_reducible refine w_nil ?_
  | with_reducible refine w_cons ?_
  | with_reducible refine w_fld ?_
  | with_reducible refine w_call ?_
  | with_reducible refine w_make ?_
  | with_reducible refine w_gsub ?_
  | with_reducible refine w_int1 ?_
  | with_reducible refine w_intB ?_
  | with_reducible refine w_for ?_
  | with_reducible refine w_rng1 ?_
  | with_reducible refine w_iList ?_
  | with_reducible refine w_iTup ?_
  | with_reducible refine w_makeD ?_
  | with_reducible refine w_nn ?_
  | with_reducible refine w_subB ?_
  | with_reducible refine w_meth ?_
  | with_reducible refine w_cb ?_
  | with_reducible refine w_test ?_
  | with_reducible refine w_B ?_
  | with_reducible refine w_bl ?_
  | with_reducible refine w_andV ?_
  | with_reducible refine w_orV ?_
  | with_reducible refine w_notV ?_
  | with_reducible refine w_and ?_
  | with_reducible refine w_or ?_
  | with_reducible refine w_not ?_
  | with_reducible refine w_if ?_
  | with_reducible refine w_gnil ?_
  | with_reducible refine w_gcons ?_
  | with_reducible refine iT ?_
  | with_reducible refine iF ?_
  | with_reducible refine w_eqI ?_
  | with_reducible refine w_neI ?_
  | with_reducible refine w_eqS ?_
  | with_reducible refine w_eqIS ?_
  | with_reducible refine w_eqSI ?_)

section
variable {P : Program} {w : World} {K : PySem.W.Frag} {mg : Str → Option Value} {base : Heap} {CF CE CC : Addr}
/-- the way out by an error that tells msg -/
def ErrK (CE : Addr) (msg : Str) (H : Hp) (E : XK) : Prop := ∀ d H', Same H H' → H' d = some (.xd (thrFs (.str msg))) → E (.ref CE) (some d) H'
theorem ErrK.same {CE : Addr} {m : Str} {H H1 : Hp} {E : XK} (h : ErrK CE m H E) (s : Same H H1) : ErrK CE m H1 E := fun d H' s1 e => h d H' (s.trans s1) e
def noInt : Str := "number has no integer representation"
def spWrap : Sp := fun vs H Q _ => ∃ n, vs = [.int n] ∧ Q (.int (wrapI n)) H
theorem sc_wrapped : FnScope ["number"] ["number"] (defScope s_wrapped) := ⟨rfl, rfl, rfl, by decide +kernel, rfl, by decide +kernel, by decide +kernel⟩
theorem ok_wrapped (T : AllP K mg CF CE CC) : Kn P w K mg base CX0 1 "wrapped" ["number"] spWrap := by
  refine T.x_wrapped.kn fun f fd F => ?_
  refine F.ok sc_wrapped (fun vs H Q E h => ?_) (fun cdv A outer s H vs Q E hr h => ?_)
  · obtain ⟨n, rfl, _⟩ := h
    rfl
  · obtain ⟨n, rfl, q⟩ := h
    refine ⟨_, (pss_one (ps_ret (pe_op op_sub (pe_op op_mod (pe_op op_add (pv 0) (pe_op op_pow pe_int pe_int)) (pe_op op_pow pe_int pe_int)) (pe_op op_pow pe_int pe_int)))), ?_⟩
    have e63 : (2 : Int) ^ (63 : Int).toNat = 9223372036854775808 := by decide
    have e64 : (2 : Int) ^ (64 : Int).toNat = 18446744073709551616 := by decide
    unfold wrapI at q
    repeat walk_at "rd"
    refine w_I (cpow (i := 2) (j := 63) (by decide) (by decide) (by decide)) ?_
    rw [e63]
    repeat walk_at "rd"
    refine w_I (cpow (i := 2) (j := 64) (by decide) (by decide) (by decide)) ?_
    rw [e64]
    refine w_I (by decide) ?_
    repeat walk_at "rd"
    refine w_I (cpow (i := 2) (j := 63) (by decide) (by decide) (by decide)) ?_
    rw [e63]
    repeat walk_at "rd"
    exact q
def spWholeOr (CF CE : Addr) : Sp := fun vs H Q E => ∃ x n, vs = [x] ∧ NmAt CF H x n ∧ ((∃ i, wholeM n = some i ∧ ∀ H', Same H H' → Q (.int i) H') ∨ (wholeM n = none ∧ ErrK CE noInt H E))
theorem sc_whole_or_thrown : FnScope ["number", "whole"] ["number"] (defScope s_whole_or_thrown) := ⟨rfl, rfl, rfl, by decide +kernel, rfl, by decide +kernel, by decide +kernel⟩
theorem ok_whole_or (T : AllP K mg CF CE CC) (k_Thrown : KnTh P w K mg base CE) (k_whole_of : Kn P w K mg base CX0 2 "whole_of" ["number"] (spWhole CF)) : Kn P w K mg base (L2.CX P w) 3 "whole_or_thrown" ["number"] (spWholeOr CF CE) := by
  refine T.x_whole_or.kn fun f fd F => ?_
  refine F.okX sc_whole_or_thrown (fun vs H Q E h => ?_) (fun cdv A outer s H vs Q E hr h => ?_)
  · obtain ⟨x, n, rfl, _⟩ := h
    rfl
  · obtain ⟨x, n, rfl, hn, q⟩ := h
    refine ⟨_, (pss_cons (ps_set (i := 1) sc_whole_or_thrown.nd rfl (Or.inl rfl) (pk k_whole_of hr (pa_cons (pv 0) pa_nil)))
      (pss_cons (ps_if (pt_cmpR op_isN (pv 1) pe_non (nomark _)) (pss_one (ps_thr rfl k_Thrown hr (takes_of rfl rfl rfl rfl) (pa_cons pe_str pa_nil))) pss_nil)
      (pss_one (ps_ret (pv 1))))), ?_⟩
    repeat walk_at "rd"
    refine ⟨x, n, rfl, hn, fun H1 s1 => ?_⟩
    repeat walk_at "rd"
    rcases q with ⟨i, e, q⟩ | ⟨e, q⟩
    · rw [e]
      refine iD (fun z => nomatch z) (fun _ => ?_)
      repeat walk_at "rd"
      exact q H1 s1
    · rw [e]
      refine iD (fun _ => ?_) (fun z => absurd rfl z)
      repeat walk_at "rd"
      refine w_thr ?_
      repeat walk_at "rd"
      exact w_thrI fun d H' s3 n3 e3 => q d H' (s1.trans s3) e3
/-! ### what an operator makes of two ints -/
def byB (wd : Str) (i j : Int) : Int := if wd = "band" then Builtin.bitAnd i j else if wd = "bor" then Builtin.bitOr i j else if wd = "bxor" then Builtin.bitXor i j else if wd = "shl" then shlI i j else shlI i (0 - j)
def Wd (wd : Str) : Prop := wd = "band" ∨ wd = "bor" ∨ wd = "bxor" ∨ wd = "shl" ∨ wd = "shr"
def spBits : Sp := fun vs H Q _ => ∃ (wd : Str) (i j : Int), vs = [.str wd, .int i, .int j] ∧ In64 i ∧ Q (.int (byB wd i j)) H
theorem sc_by_bits : FnScope ["word", "one", "other", "many"] ["word", "one", "other"] (defScope s_by_bits) := ⟨rfl, rfl, rfl, by decide +kernel, rfl, by decide +kernel, by decide +kernel⟩
theorem ok_by_bits (T : AllP K mg CF CE CC) (k_wrapped : Kn P w K mg base CX0 1 "wrapped" ["number"] spWrap) : Kn P w K mg base CX0 2 "by_bits" ["word", "one", "other"] spBits := by
  refine T.x_by_bits.kn fun f fd F => ?_
  refine F.ok sc_by_bits (fun vs H Q E h => ?_) (fun cdv A outer s H vs Q E hr h => ?_)
  · obtain ⟨wd, i, j, rfl, _⟩ := h
    rfl
  · obtain ⟨wd, i, j, rfl, hi, q⟩ := h
    refine ⟨_, (pss_cons (ps_if (pt_cmpR op_eq (pv 0) pe_str (nomark _)) (pss_one (ps_ret (pe_op op_and (pv 1) (pv 2)))) pss_nil)
      (pss_cons (ps_if (pt_cmpR op_eq (pv 0) pe_str (nomark _)) (pss_one (ps_ret (pe_op op_or (pv 1) (pv 2)))) pss_nil)
      (pss_cons (ps_if (pt_cmpR op_eq (pv 0) pe_str (nomark _)) (pss_one (ps_ret (pe_op op_xor (pv 1) (pv 2)))) pss_nil)
      (pss_cons (ps_set (i := 3) sc_by_bits.nd rfl (Or.inl rfl) (pe_ifExp (pt_cmpR op_eq (pv 0) pe_str (nomark _)) (pv 2) (pe_op op_sub pe_int (pv 2))))
      (pss_cons (ps_if (PW.pt (pw_or (pt_cmpR op_le (pv 3) (pe_un un_neg pe_int) (nomark _)) (pw_or1 (pt_cmpR op_ge (pv 3) pe_int (nomark _))))) (pss_one (ps_ret pe_int)) pss_nil)
      (pss_cons (ps_if (pt_cmpR op_lt (pv 3) pe_int (nomark _)) (pss_one (ps_ret (pk k_wrapped hr (pa_cons (pe_op op_shr (pe_op op_mod (pv 1) (pe_op op_pow pe_int pe_int)) (pe_op op_sub pe_int (pv 3))) pa_nil)))) pss_nil)
      (pss_one (ps_ret (pk k_wrapped hr (pa_cons (pe_op op_shlW (pv 1) (pv 3)) pa_nil)))))))))), ?_⟩
    have e64 : (2 : Int) ^ (64 : Int).toNat = 18446744073709551616 := by decide
    unfold byB at q
    repeat walk_at "rd"
    refine iD (fun c => ?_) (fun c => ?_)
    · rw [if_pos c] at q
      repeat walk_at "rd"
      exact q
    rw [if_neg c] at q
    repeat walk_at "rd"
    refine iD (fun c => ?_) (fun c => ?_)
    · rw [if_pos c] at q
      repeat walk_at "rd"
      exact q
    rw [if_neg c] at q
    repeat walk_at "rd"
    refine iD (fun c => ?_) (fun c => ?_)
    · rw [if_pos c] at q
      repeat walk_at "rd"
      exact q
    rw [if_neg c] at q
    have bi : bits i ≤ 64 := (bits_le (k := 64)).2 (by unfold In64 at hi; omega)
    have nn := Int.emod_nonneg i (b := 18446744073709551616) (by decide)
    repeat walk_at "rd"
    refine iD (fun c => ?_) (fun c => ?_)
    all_goals
      first | rw [if_pos c] at q | rw [if_neg c] at q
      unfold shlI at q
      repeat walk_at "rd"
      refine iD (fun c1 => ?_) (fun c1 => ?_)
      · rw [if_pos (Or.inl c1)] at q
        repeat walk_at "rd"
        exact q
      repeat walk_at "rd"
      refine iD (fun c2 => ?_) (fun c2 => ?_)
      · rw [if_pos (Or.inr c2)] at q
        repeat walk_at "rd"
        exact q
      rw [if_neg (by rintro (z | z) <;> contradiction)] at q
      repeat walk_at "rd"
      refine iD (fun c3 => ?_) (fun c3 => ?_)
      · rw [if_pos c3] at q
        repeat walk_at "rd"
        refine w_I (cpow (i := 2) (j := 64) (by decide) (by decide) (by decide)) ?_
        rw [e64]
        refine w_I (by decide) ?_
        repeat walk_at "rd"
        refine w_I (by show (0 : Int) ≤ _; omega) ?_
        repeat walk_at "rd"
        exact ⟨_, rfl, q⟩
      · rw [if_neg c3] at q
        repeat walk_at "rd"
        refine w_I (cshl (by omega) (by omega) (by omega)) ?_
        repeat walk_at "rd"
        exact ⟨_, rfl, q⟩
/-! ### arith, bit_not: they raise -/
def spAriB (CF CE : Addr) : Sp := fun vs H Q E => ∃ wd x y n m, vs = [.str wd, x, y] ∧ Wd wd ∧ NmAt CF H x n ∧ NmAt CF H y m ∧ NmI n ∧ NmI m ∧
  ((∃ i j, wholeM n = some i ∧ wholeM m = some j ∧ ∀ H', Same H H' → Q (.int (byB wd i j)) H') ∨ ((wholeM n = none ∨ wholeM m = none) ∧ ErrK CE noInt H E))
theorem sc_arith : FnScope ["word", "one", "other"] ["word", "one", "other"] (defScope s_arith) := ⟨rfl, rfl, rfl, by decide +kernel, rfl, by decide +kernel, by decide +kernel⟩
theorem ok_arith (T : AllP K mg CF CE CC) (k_whole_or_thrown : Kn P w K mg base (L2.CX P w) 3 "whole_or_thrown" ["number"] (spWholeOr CF CE)) (k_by_bits : Kn P w K mg base CX0 2 "by_bits" ["word", "one", "other"] spBits) : Kn P w K mg base (L2.CX P w) 4 "arith" ["word", "one", "other"] (spAriB CF CE) := by
  refine T.x_arith.kn fun f fd F => ?_
  refine F.okX sc_arith (fun vs H Q E h => ?_) (fun cdv A outer s H vs Q E hr h => ?_)
  · obtain ⟨wd, x, y, n, m, rfl, _⟩ := h
    rfl
  · obtain ⟨wd, x, y, n, m, rfl, hw, hn, hm, ni, mi, q⟩ := h
    refine ⟨_, (pss_cons (ps_if (pt_cmpR op_in_seq (pv 0) (pe_tup (pa_cons pe_str (pa_cons pe_str (pa_cons pe_str (pa_cons pe_str (pa_cons pe_str pa_nil)))))) rfl) (pss_one (ps_ret (pk k_by_bits hr (pa_cons (pv 0) (pa_cons (pkX k_whole_or_thrown hr (takes_of rfl rfl rfl rfl) (pa_cons (pv 1) pa_nil)) (pa_cons (pkX k_whole_or_thrown hr (takes_of rfl rfl rfl rfl) (pa_cons (pv 2) pa_nil)) pa_nil)))))) pss_nil)
      (pss_cons ps_never
      (pss_cons ps_never
      (pss_cons ps_never
      (pss_one ps_never))))), ?_⟩
    have hin : inV (.str wd) [.str "band", .str "bor", .str "bxor", .str "shl", .str "shr"] = true := by
      rcases hw with rfl | rfl | rfl | rfl | rfl <;> decide +kernel
    repeat walk_at "rd"
    refine w_tupI (by show 5 ≤ 1000; decide) fun a1 H1 s1 n1 e1 => ?_
    refine w_in e1 rfl rfl ?_
    rw [hin]
    repeat walk_at "rd"
    refine w_callS ?_
    repeat walk_at "rd"
    refine ⟨x, n, rfl, hn.same s1, ?_⟩
    rcases q with ⟨i, j, ei, ej, q⟩ | ⟨e, q⟩
    · refine .inl ⟨i, ei, fun H2 s2 => ?_⟩
      repeat walk_at "rd"
      refine w_callS ?_
      repeat walk_at "rd"
      refine ⟨y, m, rfl, (hm.same s1).same s2, .inl ⟨j, ej, fun H3 s3 => ?_⟩⟩
      repeat walk_at "rd"
      exact ⟨wd, i, j, rfl, wholeM_in ni ei, q H3 ((s1.trans s2).trans s3)⟩
    · cases en : wholeM n with
      | none => exact .inr ⟨rfl, q.same s1⟩
      | some i =>
        rw [en] at e
        have em : wholeM m = none := e.resolve_left (fun z => nomatch z)
        refine .inl ⟨i, rfl, fun H2 s2 => ?_⟩
        repeat walk_at "rd"
        refine w_callS ?_
        repeat walk_at "rd"
        exact ⟨y, m, rfl, (hm.same s1).same s2, .inr ⟨em, q.same (s1.trans s2)⟩⟩
def spNot (CF CE : Addr) : Sp := fun vs H Q E => ∃ x n, vs = [x] ∧ NmAt CF H x n ∧ ((∃ i, wholeM n = some i ∧ ∀ H', Same H H' → Q (.int (-1 - i)) H') ∨ (wholeM n = none ∧ ErrK CE noInt H E))
theorem sc_bit_not : FnScope ["number"] ["number"] (defScope s_bit_not) := ⟨rfl, rfl, rfl, by decide +kernel, rfl, by decide +kernel, by decide +kernel⟩
theorem ok_bit_not (T : AllP K mg CF CE CC) (k_whole_or_thrown : Kn P w K mg base (L2.CX P w) 3 "whole_or_thrown" ["number"] (spWholeOr CF CE)) : Kn P w K mg base (L2.CX P w) 4 "bit_not" ["number"] (spNot CF CE) := by
  refine T.x_bit_not.kn fun f fd F => ?_
  refine F.okX sc_bit_not (fun vs H Q E h => ?_) (fun cdv A outer s H vs Q E hr h => ?_)
  · obtain ⟨x, n, rfl, _⟩ := h
    rfl
  · obtain ⟨x, n, rfl, hn, q⟩ := h
    refine ⟨_, (pss_one (ps_ret (pe_op op_sub (pe_op op_sub pe_int pe_int) (pkX k_whole_or_thrown hr (takes_of rfl rfl rfl rfl) (pa_cons (pv 0) pa_nil))))), ?_⟩
    repeat walk_at "rd"
    refine w_callS ?_
    repeat walk_at "rd"
    refine ⟨x, n, rfl, hn, ?_⟩
    rcases q with ⟨i, e, q⟩ | ⟨e, q⟩
    · refine .inl ⟨i, e, fun H1 s1 => ?_⟩
      repeat walk_at "rd"
      exact q H1 s1
    · exact .inr ⟨e, q⟩
/-! ### negated -/
def negM : Nm → Nm
  | .int i => .int (wrapI (0 - i))
  | .fl (.fin s t p) => .fl (.fin (0 - s) t p)
  | .fl (.inf s) => .fl (.inf (0 - s))
  | .fl .nan => .fl .nan
def spNeg (CF : Addr) : Sp := fun vs H Q _ => ∃ x n, vs = [x] ∧ NmAt CF H x n ∧ ∀ y H', Same H H' → (∀ i, n = .int i → y = .int (wrapI (0 - i))) → (∀ f, n = .fl f → ∃ a g, y = .ref a ∧ negM n = .fl g ∧ FlAt CF H' a g) → Q y H'
theorem arg_neg {s t p : Int} (ok : (Fl.fin s t p).ok) : Arg (0 - s) (.int t) p (.fin (0 - s) t p) := by
  obtain ⟨hs, h0, h1, h2, h3⟩ := ok
  have hs' : 0 - s = 1 ∨ 0 - s = -1 := by omega
  by_cases z : t = 0
  · have pz := h2 z
    subst z pz
    exact .inl ⟨0, rfl, by decide, hs', by rw [red_zero]; decide, by rw [red_zero]⟩
  · obtain ⟨a, b, c⟩ := h3 z
    have e : red t p = (t, p) := by
      obtain ⟨k, m, hm, e, r⟩ := red_spec (t := t) (by omega) p
      have k0 : k = 0 := by
        cases k with
        | zero => rfl
        | succ k =>
          rw [Int.pow_succ, Int.mul_comm (2 ^ k) 2, Int.mul_assoc] at e
          omega
      subst k0
      rw [r]
      rw [Int.pow_zero, Int.one_mul] at e
      rw [e]
      simp
    refine .inl ⟨t, rfl, h0, hs', ?_, by rw [e]⟩
    rw [e]
    unfold fitsB
    rw [decide_eq_true h1, decide_eq_true a, decide_eq_true b]
    rfl
theorem sc_negated : FnScope ["number"] ["number"] (defScope s_negated) := ⟨rfl, rfl, rfl, by decide +kernel, rfl, by decide +kernel, by decide +kernel⟩
theorem ok_negated (T : AllP K mg CF CE CC) (k_wrapped : Kn P w K mg base CX0 1 "wrapped" ["number"] spWrap) (k_Float_init : KnC P w K mg base CX0 2 "Float" CF ["self", "sign", "top", "power"] (spInit CF)) : Kn P w K mg base CX0 4 "negated" ["number"] (spNeg CF) := by
  refine T.x_negated.kn fun f fd F => ?_
  refine F.ok sc_negated (fun vs H Q E h => ?_) (fun cdv A outer s H vs Q E hr h => ?_)
  · obtain ⟨x, n, rfl, _⟩ := h
    rfl
  · obtain ⟨x, n, rfl, hn, q⟩ := h
    refine ⟨_, (pss_cons (ps_if (pt_not (pt_val (pe_callB call_isi (by rfl) T.b_isinstance boot_isinstance (pa_cons (pv 0) (pa_cons (pg "Float" T.g_Float (rref _)) pa_nil))))) (pss_one (ps_ret (pk k_wrapped hr (pa_cons (pe_op op_sub pe_int (pv 0)) pa_nil)))) pss_nil)
      (pss_cons (ps_if (pt_cmpR op_eq (pe_fld (pv 0) rfl) pe_str (nomark _)) (pss_one (ps_ret (pv 0))) pss_nil)
      (pss_one (ps_ret (pkC k_Float_init hr (pa_cons (pe_op op_sub pe_int (pe_fld (pv 0) rfl)) (pa_cons (pe_fld (pv 0) rfl) (pa_cons (pe_fld (pv 0) rfl) pa_nil)))))))), ?_⟩
    obtain ⟨ty, tyx, i1, _⟩ := u_isF T hn
    repeat walk_at "rd"
    refine w_isi (.own CF) tyx i1 ?_
    repeat walk_at "rd"
    match n, hn, q with
    | .int i, hn, q =>
      obtain ⟨rfl, _⟩ := hn
      refine iT ?_
      repeat walk_at "rd"
      exact ⟨_, rfl, q _ H (Same.refl _) (fun j e => by cases e; rfl) (fun f e => nomatch e)⟩
    | .fl .nan, hn, q =>
      obtain ⟨a, rfl, hf, ok⟩ := hn
      obtain ⟨dx, h1⟩ := id hf
      have h1 : H a = some (.ins CF dx (flds 1 (.str "nan") 0)) := h1
      refine iF ?_
      repeat walk_at "rd"
      refine w_fldI h1 T.l_Float T.n_top (flds_t _ _ _) ?_
      repeat walk_at "rd"
      refine iD (fun _ => ?_) (fun z => absurd rfl z)
      repeat walk_at "rd"
      exact q _ H (Same.refl _) (fun j e => nomatch e) (fun f e => by cases e; exact ⟨a, _, rfl, rfl, hf⟩)
    | .fl (.inf s), hn, q =>
      obtain ⟨a, rfl, hf, ok⟩ := hn
      obtain ⟨dx, h1⟩ := id hf
      have h1 : H a = some (.ins CF dx (flds s (.str "inf") 0)) := h1
      refine iF ?_
      repeat walk_at "rd"
      refine w_fldI h1 T.l_Float T.n_top (flds_t _ _ _) ?_
      repeat walk_at "rd"
      refine iD (fun z => absurd z (by decide +kernel)) (fun _ => ?_)
      repeat walk_at "rd"
      refine w_fldI h1 T.l_Float T.n_sign (flds_s _ _ _) ?_
      repeat walk_at "rd"
      refine w_fldI h1 T.l_Float T.n_top (flds_t _ _ _) ?_
      repeat walk_at "rd"
      refine w_fldI h1 T.l_Float T.n_power (flds_p _ _ _) ?_
      repeat walk_at "rd"
      have ok : s = 1 ∨ s = -1 := ok
      exact u_Float (f := .inf (0 - s)) (.inr (.inl ⟨rfl, rfl, by show 0 - s = 1 ∨ 0 - s = -1; omega, rfl⟩)) fun x H1 s1 n1 h2 => q _ H1 s1 (fun j e => nomatch e) (fun f e => by cases e; exact ⟨x, _, rfl, rfl, h2⟩)
    | .fl (.fin s t p), hn, q =>
      obtain ⟨a, rfl, hf, ok⟩ := hn
      obtain ⟨dx, h1⟩ := id hf
      have h1 : H a = some (.ins CF dx (flds s (.int t) p)) := h1
      refine iF ?_
      repeat walk_at "rd"
      refine w_fldI h1 T.l_Float T.n_top (flds_t _ _ _) ?_
      repeat walk_at "rd"
      refine w_fldI h1 T.l_Float T.n_sign (flds_s _ _ _) ?_
      repeat walk_at "rd"
      refine w_fldI h1 T.l_Float T.n_top (flds_t _ _ _) ?_
      repeat walk_at "rd"
      refine w_fldI h1 T.l_Float T.n_power (flds_p _ _ _) ?_
      repeat walk_at "rd"
      exact u_Float (arg_neg ok) fun x H1 s1 n1 h2 => q _ H1 s1 (fun j e => nomatch e) (fun f e => by cases e; exact ⟨x, _, rfl, rfl, h2⟩)
end
end Nu

set_option Elab.async false
set_option linter.all false
set_option maxRecDepth 100000
set_option autoImplicit false
set_option maxHeartbeats 4000000
namespace Nu
open PySem PySem.Spec PyProof.Rows L2 Rd
local macro_rules | `(tactic| walk_at "hp") => `(tactic| first | assumption | (refine same_get ?sm ?_; (case sm => assumption); walk_at "hp"))
local macro_rules | `(tactic| walk_at "rd") => `(tactic| first
  | with_reducible refine w_nx ?_
  | with_reducible refine w_rt ?_
  | with_reducible refine w_bk ?_
  | with_reducible refine w_ct ?_
  | with_reducible refine w_seq ?_
  | with_reducible refine w_next ?_
  | with_reducible refine w_ret ?_
  | with_reducible refine w_ifS ?_
  | with_reducible refine w_asg ?_
  | with_reducible refine w_name ?_
  | with_reducible refine w_par ?_
  | with_reducible refine w_parI ?_
  | with_reducible refine w_ii ?_
  | with_reducible refine w_i1 ?_
  | with_reducible refine w_drop ?_
  | with_reducible refine w_sFld ?_
  | ((with_reducible refine' w_var ?rdh ?_); (case rdh => exact rfl))
  | with_reducible refine w_c ?_
  | with_reducible refine w_op ?_
  | with_reducible refine w_un ?_
  | with_reducible refine w_I0 ?_
  | with_reducible refine w_U ?_
  | with_reducible refine w_bits ?_
  | with_reducible refine w_bitsI ?_
  | with_reducible refine w_tup ?_
  | with_reducible refine w_lst ?_
  | with_reducible refine w_nil ?_
  | with_reducible refine w_cons ?_
  | with_reducible refine w_fld ?_
  | with_reducible refine w_call ?_
  | with_reducible refine w_make ?_
  | with_reducible refine w_gsub ?_
  | with_reducible refine w_int1 ?_
  | with_reducible refine w_intB ?_
  | with_reducible refine w_for ?_
  | with_reducible refine w_rng1 ?_
  | with_reducible refine w_iList ?_
  | with_reducible refine w_iTup ?_
  | with_reducible refine w_makeD ?_
  | with_reducible refine w_nn ?_
  | with_reducible refine w_subB ?_
  | with_reducible refine w_meth ?_
  | with_reducible refine w_cb ?_
  | with_reducible refine w_test ?_
  | with_reducible refine w_B ?_
  | with_reducible refine w_bl ?_
  | with_reducible refine w_andV ?_
  | with_reducible refine w_orV ?_
  | with_reducible refine w_notV ?_
  | with_reducible refine w_and ?_
  | with_reducible refine w_or ?_
  | with_reducible refine w_not ?_
  | with_reducible refine w_if ?_
  | with_reducible refine w_gnil ?_
  | with_reducible refine w_gcons ?_
  | with_reducible refine iT ?_
  | with_reducible refine iF ?_
  | with_reducible refine w_eqI ?_
  | with_reducible refine w_neI ?_
  | with_reducible refine w_eqS ?_
  | with_reducible refine w_eqIS ?_
  | with_reducible refine w_eqSI ?_)

/-! ### lists of bits -/
def bitsV (b : Nat → Int) (n : Nat) : List L2.V := (List.range n).map fun k => V.int (b k)
theorem bitsV_succ (b : Nat → Int) (n : Nat) : bitsV b (n + 1) = bitsV b n ++ [.int (b n)] := by
  unfold bitsV
  rw [List.range_succ, List.map_append]
  rfl
theorem bitsV_len (b : Nat → Int) (n : Nat) : (bitsV b n).length = n := by simp [bitsV]
theorem bitsV_get (b : Nat → Int) {n k : Nat} (h : k < n) : (bitsV b n)[k]? = some (.int (b k)) := by simp [bitsV, h]
theorem bitsV_ext {b c : Nat → Int} {n : Nat} (h : ∀ k, k < n → b k = c k) : bitsV b n = bitsV c n := by
  unfold bitsV
  refine List.map_congr_left fun k hk => ?_
  rw [h k (List.mem_range.1 hk)]
theorem bitsV_at (b : Nat → Int) {n : Nat} {i : Int} (h0 : 0 ≤ i) (h : i < n) : atI (bitsV b n) i = some (.int (b i.toNat)) := by
  obtain ⟨v, e1, e2⟩ := atI_nat (xs := bitsV b n) h0 (by rw [bitsV_len]; exact h)
  rw [bitsV_get b (by omega)] at e2
  cases e2
  exact e1
theorem half_bit (n : Int) (k : Nat) : (n / 2 ^ k - n / 2 ^ k % 2) / 2 = n / 2 ^ (k + 1) := by
  rw [Int.pow_succ, ← Int.ediv_ediv_of_nonneg (Int.le_of_lt (pow_pos2 k))]
  omega
theorem same_put {H H' : Hp} {D : Addr} {o : HO} (s : Same H H') (n : H D = none) : Same H (upd H' D o) := fun b u e => by
  rw [upd_ne (ne_of_none e n)]
  exact s b u e
theorem w_lc {wi : TI} {g : TG} {tt : TT} {te : TE} {vs : List Nat} {σ : L2.St} {H : Hp} {Q : VK} (h : wi σ H fun J H1 => ∀ D, H1 D = none → ∃ W : Nat → Nat → Hp → Prop, (∃ m, W 0 m (upd H1 D (.lst []))) ∧ ∀ i m H, W i m H →
  (J.stop i H ∧ Q (.ref D) H) ∨ (J.go i H ∧ ∃ Nx : Hp → Prop, (∀ H', Nx H' → ∃ m', m' < m ∧ W (i + 1) m' H') ∧ ∀ x H', J.yld i H x H' → g x (wipe σ vs) H' fun σ2 H2 => wipe σ2 vs = wipe σ vs ∧ tt σ2 H2 fun b H3 =>
    if b = true then te σ2 H3 fun y H4 => ∃ acc, H4 D = some (.lst acc) ∧ acc.length < sizeLine ∧ Nx (upd H4 D (.lst (acc ++ [y]))) else Nx H3)) : tLc wi g tt te vs σ H Q := h
theorem w_yes {σ : L2.St} {H : Hp} {Q : Bool → Hp → Prop} (q : Q true H) : tYes σ H Q := q
theorem w_lz {K : PySem.W.Frag} {ta : TA} {σ : L2.St} {H : Hp} {Q : VK} (h : ta σ H fun vs H1 => ∃ (a b : Addr) (xs ys : List L2.V), vs = [.ref a, .ref b] ∧ SqL K H1 a xs ∧ SqL K H1 b ys ∧ xs.length = ys.length ∧
  ∀ (p : Addr) (ts : List Addr) (H' : Hp), Same H1 H' → H1 p = none → H' p = some (.lst (ts.map V.ref)) → ts.length = xs.length → (∀ (j : Nat) (t : Addr), ts[j]? = some t → ∃ x y, xs[j]? = some x ∧ ys[j]? = some y ∧ H' t = some (.tup [x, y])) → Q (.ref p) H') : tLZ K ta σ H Q := h
section
variable {P : Program} {w : World} {K : PySem.W.Frag} {mg : Str → Option Value} {base : Heap} {CF CE CC : Addr}
def spBitsOf : Sp := fun vs H Q _ => ∃ n, vs = [.int n] ∧ bits n ≤ 70 ∧ ∀ p H', Same H H' → H p = none → H' p = some (.lst (bitsV (bitk n) 64)) → Q (.ref p) H'
theorem sc_law_bits : FnScope ["number", "found", "k"] ["number"] (defScope s_law_bits) := ⟨rfl, rfl, rfl, by decide +kernel, rfl, by decide +kernel, by decide +kernel⟩
theorem ok_bits (T : AllP K mg CF CE CC) : Kn P w K mg base CX0 1 "_law_bits" ["number"] spBitsOf := by
  refine T.x_bits.kn fun f fd F => ?_
  refine F.ok sc_law_bits (fun vs H Q E h => ?_) (fun cdv A outer s H vs Q E hr h => ?_)
  · obtain ⟨n, rfl, _⟩ := h
    rfl
  · obtain ⟨n, rfl, hb, q⟩ := h
    refine ⟨_, (pss_cons (ps_set (i := 1) sc_law_bits.nd rfl (Or.inl rfl) (pe_lst pa_nil))
      (pss_cons (ps_for PassesOwn.never rfl (pi_range1 rfl T.b_range (pa_cons pe_int pa_nil)) (pg_name (i := 2) sc_law_bits.nd rfl (Or.inl rfl))
      (pss_cons (ps_expr (pe_bm PySem.F.plainAttrs_list PySem.F.slot_list_append PySem.F.type_list_append mt_append (pv 1) (pa_cons (pe_op op_mod (pe_callTy call_int1 (by rfl) T.b_int boot_int (pa_cons (pv 0) pa_nil)) pe_int) pa_nil)))
      (pss_one (ps_set (i := 0) sc_law_bits.nd rfl (Or.inl rfl) (pe_op op_fdivW (pe_op op_sub (pv 0) (pe_op op_mod (pe_callTy call_int1 (by rfl) T.b_int boot_int (pa_cons (pv 0) pa_nil)) pe_int)) pe_int)))))
      (pss_one (ps_ret (pv 1))))), ?_⟩
    repeat walk_at "rd"
    refine w_lstI (by show 0 ≤ 1000; decide) fun p H1 s1 n1 h1 => ?_
    repeat walk_at "rd"
    refine ⟨by decide, by decide, ?_⟩
    refine for_range (lo := 0) (fun i σ H' => ∃ kv, σ = [some (.int (n / 2 ^ i)), some (.ref p), kv] ∧ Same H H' ∧ H' p = some (.lst (bitsV (bitk n) i))) ⟨none, by rw [Int.pow_zero, Int.ediv_one]; rfl, s1, h1⟩ ?_ ?_
    · intro i σ H2 hi ⟨kv, es, s2, h2⟩
      have hi : i < 64 := hi
      subst es
      repeat walk_at "rd"
      refine w_bm ?_
      repeat walk_at "rd"
      refine ⟨.inl ⟨rfl, _, SqL.of h2⟩, ?_⟩
      repeat walk_at "rd"
      refine w_I (by decide) ?_
      repeat walk_at "rd"
      refine ⟨p, _, _, rfl, rfl, h2, ?_, ?_⟩
      · rw [bitsV_len]; exact Nat.lt_trans hi (by decide)
      repeat walk_at "rd"
      refine w_I (by decide) ?_
      repeat walk_at "rd"
      refine w_I (cdivw (by decide) (by decide)) ?_
      repeat walk_at "rd"
      rw [half_bit]
      refine ⟨_, rfl, same_put s2 n1, ?_⟩
      rw [upd_same, bitsV_succ]
      rfl
    · intro σ H2 ⟨kv, es, s2, h2⟩
      subst es
      repeat walk_at "rd"
      exact q p H2 s2 n1 h2
theorem u_bits {n : Int} {H : Hp} {Q : VK} {E : XK} (hb : bits n ≤ 70) (q : ∀ p H', Same H H' → H p = none → H' p = some (.lst (bitsV (bitk n) 64)) → Q (.ref p) H') : spBitsOf ([V.int n] ++ []) H Q E := ⟨n, rfl, hb, q⟩
/-! ### the int with some bits -/
def spNumOf : Sp := fun vs H Q _ => ∃ (a : Addr) (b : Nat → Int), vs = [.ref a] ∧ H a = some (.lst (bitsV b 64)) ∧ (∀ k, b k = 0 ∨ b k = 1) ∧ Q (.int (numB b)) H
theorem sc_law_number_of : FnScope ["bits", "whole", "k"] ["bits"] (defScope s_law_number_of) := ⟨rfl, rfl, rfl, by decide +kernel, rfl, by decide +kernel, by decide +kernel⟩
theorem ok_number_of (T : AllP K mg CF CE CC) : Kn P w K mg base CX0 1 "_law_number_of" ["bits"] spNumOf := by
  refine T.x_number_of.kn fun f fd F => ?_
  refine F.ok sc_law_number_of (fun vs H Q E h => ?_) (fun cdv A outer s H vs Q E hr h => ?_)
  · obtain ⟨a, b, rfl, _⟩ := h
    rfl
  · obtain ⟨a, b, rfl, ha, h01, q⟩ := h
    refine ⟨_, (pss_cons (ps_set (i := 1) sc_law_number_of.nd rfl (Or.inl rfl) (pe_op op_sub pe_int (pe_op op_shlW (pe_ix ix_list (pv 0) pe_int (fun _ _ => rfl)) pe_int)))
      (pss_cons (ps_for PassesOwn.never rfl (pi_range1 rfl T.b_range (pa_cons pe_int pa_nil)) (pg_name (i := 2) sc_law_number_of.nd rfl (Or.inl rfl))
      (pss_one (ps_set (i := 1) sc_law_number_of.nd rfl (Or.inl rfl) (pe_op op_add (pv 1) (pe_op op_shlW (pe_ix ix_list (pv 0) (pv 2) (fun _ _ => rfl)) (pv 2))))))
      (pss_one (ps_ret (pv 1))))), ?_⟩
    have bb : ∀ k, bits (b k) ≤ 1 := fun k => by rcases h01 k with e | e <;> rw [e] <;> decide
    have e63 : (2 : Int) ^ Int.toNat 63 = 9223372036854775808 := by decide
    repeat walk_at "rd"
    refine w_ixL ha (bitsV_at b (n := 64) (i := 63) (by decide) (by decide)) ?_
    repeat walk_at "rd"
    refine w_I (cshl (by have := bb (63 : Int).toNat; omega) (by decide) (by decide)) ?_
    rw [e63, show (63 : Int).toNat = 63 from rfl]
    repeat walk_at "rd"
    refine ⟨by decide, by decide, ?_⟩
    refine for_range (lo := 0) (fun i σ H' => ∃ kv, σ = [some (.ref a), some (.int (0 - b 63 * 9223372036854775808 + usum b i)), kv] ∧ H' = H) ⟨none, by rw [show usum b 0 = 0 from rfl, Int.add_zero]; rfl, rfl⟩ ?_ ?_
    · intro i σ H2 hi ⟨kv, es, eh⟩
      have hi : i < 63 := hi
      subst es eh
      repeat walk_at "rd"
      rw [show (0 : Int) + (i : Int) = (i : Int) by omega]
      refine w_ixL ha (bitsV_at b (n := 64) (i := (i : Int)) (by omega) (by omega)) ?_
      repeat walk_at "rd"
      refine w_I (cshl (by have := bb (i : Int).toNat; omega) (by omega) (by omega)) ?_
      repeat walk_at "rd"
      refine ⟨some (.int (i : Int)), ?_, rfl⟩
      rw [show (i : Int).toNat = i by omega]
      show [_, some (V.int (0 - b 63 * 9223372036854775808 + usum b i + b i * 2 ^ i)), _] = [_, some (V.int (0 - b 63 * 9223372036854775808 + (usum b i + b i * 2 ^ i))), _]
      rw [Int.add_assoc]
    · intro σ H2 ⟨kv, es, eh⟩
      subst es eh
      repeat walk_at "rd"
      rw [show Int.toNat 63 = 63 from rfl, show (0 : Int) - b 63 * 9223372036854775808 + usum b 63 = numB b by unfold numB; omega]
      exact q
theorem u_numOf {a : Addr} {b : Nat → Int} {H : Hp} {Q : VK} {E : XK} (h : H a = some (.lst (bitsV b 64))) (h01 : ∀ k, b k = 0 ∨ b k = 1) (q : Q (.int (numB b)) H) : spNumOf ([V.ref a] ++ []) H Q E := ⟨a, b, rfl, h, h01, q⟩
/-! ### what is due -/
def spDue : Sp := fun vs H Q _ => ∃ (wd : Str) (i j : Int), vs = [.str wd, .int i, .int j] ∧ Wd wd ∧ In64 i ∧ In64 j ∧ ∀ H', Same H H' → Q (.int (byB wd i j)) H'
theorem in64_bits {i : Int} (h : In64 i) : bits i ≤ 70 := by
  have := (bits_le (n := i) (k := 64)).2 (by unfold In64 at h; omega)
  omega
theorem byB_and {i j : Int} (hi : In64 i) (hj : In64 j) : numB (fun k => bitk i k * bitk j k) = byB "band" i j := by
  rw [show byB "band" i j = Builtin.bitAnd i j from rfl, ← numB_bitk (in64_and hi hj)]
  exact numB_ext fun k _ => (bitk_and i j k).symm
theorem byB_or {i j : Int} (hi : In64 i) (hj : In64 j) : numB (fun k => if bitk j k > bitk i k then bitk j k else bitk i k) = byB "bor" i j := by
  rw [show byB "bor" i j = Builtin.bitOr i j from by unfold byB; rw [if_neg (by decide +kernel), if_pos rfl], ← numB_bitk (in64_or hi hj)]
  exact numB_ext fun k _ => (bitk_or i j k).symm
theorem byB_xor {i j : Int} (hi : In64 i) (hj : In64 j) : numB (fun k => if bitk i k = bitk j k then 0 else 1) = byB "bxor" i j := by
  rw [show byB "bxor" i j = Builtin.bitXor i j from by unfold byB; rw [if_neg (by decide +kernel), if_neg (by decide +kernel), if_pos rfl], ← numB_bitk (in64_xor hi hj)]
  exact numB_ext fun k _ => (bitk_xor i j k).symm
def farOf (wd : Str) (j : Int) : Int := if wd = "shl" then j else 0 - j
theorem byB_sh {wd : Str} {i j : Int} (h : wd = "shl" ∨ wd = "shr") : byB wd i j = shlI i (farOf wd j) := by
  unfold byB farOf
  rcases h with rfl | rfl
  · rw [if_neg (by decide +kernel), if_neg (by decide +kernel), if_neg (by decide +kernel), if_pos rfl, if_pos rfl]
  · rw [if_neg (by decide +kernel), if_neg (by decide +kernel), if_neg (by decide +kernel), if_neg (by decide +kernel), if_neg (by decide +kernel)]
theorem sc_law_due : FnScope ["word", "one", "other", "first", "second", "far", "found", "k", "pairs", "a", "b"] ["word", "one", "other"] (defScope s_law_due) := ⟨rfl, rfl, rfl, by decide +kernel, rfl, by decide +kernel, by decide +kernel⟩
theorem ok_due (T : AllP K mg CF CE CC) (k_law_bits : Kn P w K mg base CX0 1 "_law_bits" ["number"] spBitsOf) (k_law_number_of : Kn P w K mg base CX0 1 "_law_number_of" ["bits"] spNumOf) : Kn P w K mg base CX0 2 "_law_due" ["word", "one", "other"] spDue := by
  refine T.x_due.kn fun f fd F => ?_
  refine F.ok sc_law_due (fun vs H Q E h => ?_) (fun cdv A outer s H vs Q E hr h => ?_)
  · obtain ⟨wd, i, j, rfl, _⟩ := h
    rfl
  · obtain ⟨wd, i, j, rfl, hw, hi, hj, q⟩ := h
    refine ⟨_, (pss_cons (ps_par (by rfl) sc_law_due.nd (i := 3) (j := 4) rfl rfl (by decide) rfl rfl (pa_cons (pk k_law_bits hr (pa_cons (pv 1) pa_nil)) (pa_cons (pk k_law_bits hr (pa_cons (pv 2) pa_nil)) pa_nil)) (by rfl))
      (pss_cons (ps_if (pt_cmpR op_in_seq (pv 0) (pe_tup (pa_cons pe_str (pa_cons pe_str pa_nil))) rfl) (C8.pss_cut (ps_set (i := 5) sc_law_due.nd rfl (Or.inl rfl) (pe_ifExp (pt_cmpR op_eq (pv 0) pe_str (nomark _)) (pv 2) (pe_op op_sub pe_int (pv 2))))
      (pss_cons (ps_set (i := 6) sc_law_due.nd rfl (Or.inl rfl) (pe_lst pa_nil))
      (pss_cons (ps_for PassesOwn.never rfl (pi_range1 rfl T.b_range (pa_cons pe_int pa_nil)) (pg_name (i := 7) sc_law_due.nd rfl (Or.inl rfl))
      (pss_one (ps_expr (pe_bm PySem.F.plainAttrs_list PySem.F.slot_list_append PySem.F.type_list_append mt_append (pv 6) (pa_cons (pe_ifExp (pt_chain op_le op_lt pe_int (pe_op op_sub (pv 7) (pv 5)) pe_int) (pe_ix ix_list (pv 3) (pe_op op_sub (pv 7) (pv 5)) (fun _ _ => rfl)) pe_int) pa_nil)))))
      (pss_one (ps_ret (pk k_law_number_of hr (pa_cons (pv 6) pa_nil))))))) pss_nil)
      (pss_cons (ps_set (i := 8) sc_law_due.nd rfl (Or.inl rfl) (pe_listzip (by rfl) (by rfl) T.b_list (by rfl) T.b_zip (pa_cons (pv 3) (pa_cons (pv 4) pa_nil))))
      (pss_cons (ps_if (pt_cmpR op_eq (pv 0) pe_str (nomark _)) (pss_one (ps_ret (pk k_law_number_of hr (pa_cons (pe_lc (own := [("a", 9), ("b", 10)]) (g := _) (tt := tYes) rfl sc_law_due.nd (pi_list (pv 8)) (blkOk_by (N := ["word", "one", "other", "first", "second", "far", "found", "k", "pairs", "a", "b"]) (sc := defScope s_law_due) (by decide +kernel)) (fun _ _ _ _ _ => (pg_tupK (K := K) (n := 2) (by rfl) (pgs_cons (pg_name (i := 9) sc_law_due.nd rfl (Or.inl rfl)) (pgs_cons (pg_name (i := 10) sc_law_due.nd rfl (Or.inl rfl)) pgs_nil)))) (fun _ _ _ _ _ => pts_nil) (fun _ _ _ _ _ => (pe_op op_mulX (pv 9) (pv 10)))) pa_nil)))) pss_nil)
      (pss_cons (ps_if (pt_cmpR op_eq (pv 0) pe_str (nomark _)) (pss_one (ps_ret (pk k_law_number_of hr (pa_cons (pe_lc (own := [("a", 9), ("b", 10)]) (g := _) (tt := tYes) rfl sc_law_due.nd (pi_list (pv 8)) (blkOk_by (N := ["word", "one", "other", "first", "second", "far", "found", "k", "pairs", "a", "b"]) (sc := defScope s_law_due) (by decide +kernel)) (fun _ _ _ _ _ => (pg_tupK (K := K) (n := 2) (by rfl) (pgs_cons (pg_name (i := 9) sc_law_due.nd rfl (Or.inl rfl)) (pgs_cons (pg_name (i := 10) sc_law_due.nd rfl (Or.inl rfl)) pgs_nil)))) (fun _ _ _ _ _ => pts_nil) (fun _ _ _ _ _ => (pe_callB (call_max2 (by rfl)) (by rfl) T.b_max boot_max (pa_cons (pv 9) (pa_cons (pv 10) pa_nil))))) pa_nil)))) pss_nil)
      (pss_one (ps_ret (pk k_law_number_of hr (pa_cons (pe_lc (own := [("a", 9), ("b", 10)]) (g := _) (tt := tYes) rfl sc_law_due.nd (pi_list (pv 8)) (blkOk_by (N := ["word", "one", "other", "first", "second", "far", "found", "k", "pairs", "a", "b"]) (sc := defScope s_law_due) (by decide +kernel)) (fun _ _ _ _ _ => (pg_tupK (K := K) (n := 2) (by rfl) (pgs_cons (pg_name (i := 9) sc_law_due.nd rfl (Or.inl rfl)) (pgs_cons (pg_name (i := 10) sc_law_due.nd rfl (Or.inl rfl)) pgs_nil)))) (fun _ _ _ _ _ => pts_nil) (fun _ _ _ _ _ => (pe_callTy call_int1 (by rfl) T.b_int boot_int (pa_cons (pe_cmpR op_ne (pv 9) (pv 10) (nomark _)) pa_nil)))) pa_nil))))))))), ?_⟩
    repeat walk_at "rd"
    refine u_bits (in64_bits hi) fun a1 H1 s1 n1 h1 => ?_
    repeat walk_at "rd"
    refine u_bits (in64_bits hj) fun a2 H2 s2 n2 h2 => ?_
    have h1 := s2 _ _ h1
    repeat walk_at "rd"
    refine w_tup2 fun a3 H3 s3 n3 h3 => ?_
    refine w_in h3 rfl rfl ?_
    have h1 := s3 _ _ h1
    have h2 := s3 _ _ h2
    have s03 := (s1.trans s2).trans s3
    by_cases sh : wd = "shl" ∨ wd = "shr"
    · have ein : inV (.str wd) [.str "shl", .str "shr"] = true := by rcases sh with rfl | rfl <;> decide +kernel
      rw [ein, byB_sh sh] at *
      repeat walk_at "rd"
      refine w_cut (Mid := fun σ' H' => H' = H3 ∧ σ' = [some (.str wd), some (.int i), some (.int j), some (.ref a1), some (.ref a2), some (.int (farOf wd j)), none, none, none, none, none]) ?_ ?_
      · repeat walk_at "rd"
        unfold farOf
        refine iD (fun c => ?_) (fun c => ?_)
        · rw [if_pos c]
          repeat walk_at "rd"
          exact ⟨rfl, rfl⟩
        · rw [if_neg c]
          repeat walk_at "rd"
          exact ⟨rfl, rfl⟩
      rintro σ' H' ⟨rfl, rfl⟩
      generalize farOf wd j = far at *
      repeat walk_at "rd"
      refine w_lstI (by show 0 ≤ 1000; decide) fun p H4 s4 n4 h4 => ?_
      repeat walk_at "rd"
      refine ⟨by decide, by decide, ?_⟩
      refine for_range (lo := 0) (fun m σ H'' => ∃ kv, σ = [some (.str wd), some (.int i), some (.int j), some (.ref a1), some (.ref a2), some (.int far), some (.ref p), kv, none, none, none] ∧ Same H' H'' ∧
        H'' p = some (.lst (bitsV (fun k => if 0 ≤ (k : Int) - far ∧ (k : Int) - far < 64 then bitk i ((k : Int) - far).toNat else 0) m))) ⟨none, rfl, s4, h4⟩ ?_ ?_
      · intro m σ H5 hm ⟨kv, es, s5, h5⟩
        have hm : m < 64 := hm
        subst es
        repeat walk_at "rd"
        refine w_bm ?_
        repeat walk_at "rd"
        refine ⟨.inl ⟨rfl, _, SqL.of h5⟩, ?_⟩
        repeat walk_at "rd"
        rw [show (0 : Int) + (m : Int) = (m : Int) by omega]
        have app : ∀ v : Int, v = (if 0 ≤ (m : Int) - far ∧ (m : Int) - far < 64 then bitk i ((m : Int) - far).toNat else 0) → Same H' (upd H5 p (.lst (bitsV (fun k => if 0 ≤ (k : Int) - far ∧ (k : Int) - far < 64 then bitk i ((k : Int) - far).toNat else 0) m ++ [.int v]))) ∧
            (upd H5 p (.lst (bitsV (fun k => if 0 ≤ (k : Int) - far ∧ (k : Int) - far < 64 then bitk i ((k : Int) - far).toNat else 0) m ++ [.int v]))) p = some (.lst (bitsV (fun k => if 0 ≤ (k : Int) - far ∧ (k : Int) - far < 64 then bitk i ((k : Int) - far).toNat else 0) (m + 1))) := fun v ev => by
          refine ⟨same_put s5 n4, ?_⟩
          rw [upd_same, bitsV_succ, ev]
        refine w_chain ?_
        repeat walk_at "rd"
        refine iD (fun c1 => ?_) (fun c1 => ?_)
        · repeat walk_at "rd"
          refine iD (fun c2 => ?_) (fun c2 => ?_)
          · repeat walk_at "rd"
            refine w_ixL (s5 _ _ h1) (bitsV_at (bitk i) (n := 64) c1 c2) ?_
            refine ⟨p, _, _, rfl, rfl, h5, by rw [bitsV_len]; exact Nat.lt_trans hm (by decide), ?_⟩
            repeat walk_at "rd"
            exact ⟨_, rfl, app _ (by rw [if_pos ⟨c1, c2⟩])⟩
          · repeat walk_at "rd"
            refine ⟨p, _, _, rfl, rfl, h5, by rw [bitsV_len]; exact Nat.lt_trans hm (by decide), ?_⟩
            repeat walk_at "rd"
            exact ⟨_, rfl, app _ (by rw [if_neg fun z => c2 z.2])⟩
        · repeat walk_at "rd"
          refine ⟨p, _, _, rfl, rfl, h5, by rw [bitsV_len]; exact Nat.lt_trans hm (by decide), ?_⟩
          repeat walk_at "rd"
          exact ⟨_, rfl, app _ (by rw [if_neg fun z => c1 z.1])⟩
      · intro σ H5 ⟨kv, es, s5, h5⟩
        subst es
        repeat walk_at "rd"
        refine u_numOf h5 (fun k => ?_) ?_
        · by_cases c : 0 ≤ (k : Int) - far ∧ (k : Int) - far < 64
          · rw [if_pos c]; exact bitk01 _ _
          · rw [if_neg c]; exact .inl rfl
        · rw [shl_bits]
          exact q H5 (s03.trans s5)
    · have ein : inV (.str wd) [.str "shl", .str "shr"] = false := by
        rcases hw with rfl | rfl | rfl | rfl | rfl
        · decide +kernel
        · decide +kernel
        · decide +kernel
        · exact absurd (.inl rfl) sh
        · exact absurd (.inr rfl) sh
      rw [ein]
      repeat walk_at "rd"
      refine w_lz ?_
      repeat walk_at "rd"
      refine ⟨a1, a2, _, _, rfl, SqL.of h1, SqL.of h2, by rw [bitsV_len, bitsV_len], fun L ts H4 s4 n4 h4 tl tp => ?_⟩
      rw [bitsV_len] at tl
      have tp : ∀ (m : Nat) (t : Addr), ts[m]? = some t → H4 t = some (.tup [.int (bitk i m), .int (bitk j m)]) := fun m t ht => by
        obtain ⟨x, y, e1, e2, e3⟩ := tp m t ht
        have hm : m < 64 := by rw [← tl]; exact (List.getElem?_eq_some_iff.1 ht).1
        rw [bitsV_get _ hm] at e1 e2
        cases e1
        cases e2
        exact e3
      have s04 := s03.trans s4
      clear h1 h2 h3 n1 n2 n3 s1 s2 s3 s4 n4
      repeat walk_at "rd"
      refine iD (fun c => ?_) (fun c => ?_)
      · subst c
        repeat walk_at "rd"
        refine w_lc ?_
        repeat walk_at "rd"
        refine w_iListI h4 fun D nD => ?_
        refine lc_list (xs := ts.map V.ref) (fun m H' => Same H4 H' ∧ H' D = some (.lst (bitsV (fun k => bitk i k * bitk j k) m))) ⟨same_upd nD, upd_same⟩ (fun m H' _ p => SqL.of (p.1 _ _ h4)) ?_ ?_
        · intro m x H' hm ⟨p1, p2⟩
          rw [List.getElem?_map] at hm
          obtain ⟨t, ht, rfl⟩ := Option.map_eq_some_iff.1 hm
          have ml : m < 64 := by rw [← tl]; exact (List.getElem?_eq_some_iff.1 ht).1
          refine w_gtup (p1 _ _ (tp m t ht)) rfl ?_
          repeat walk_at "rd"
          refine ⟨rfl, ?_⟩
          refine w_yes ?_
          refine iT ?_
          repeat walk_at "rd"
          refine w_I (cmulx (by rcases bitk01 i m with e | e <;> rw [e] <;> decide) (by rcases bitk01 j m with e | e <;> rw [e] <;> decide)) ?_
          repeat walk_at "rd"
          exact ⟨_, p2, by rw [bitsV_len]; exact Nat.lt_trans ml (by decide), same_put p1 nD, by rw [upd_same, bitsV_succ]⟩
        intro H5 ⟨s5, h5⟩
        rw [List.length_map, tl] at h5
        repeat walk_at "rd"
        refine u_numOf h5 (fun k => ?_) ?_
        · rcases bitk01 i k with e | e <;> rcases bitk01 j k with e2 | e2 <;> rw [e, e2] <;> decide
        · rw [byB_and hi hj]
          exact q H5 (s04.trans s5)
      repeat walk_at "rd"
      refine iD (fun c2 => ?_) (fun c2 => ?_)
      · subst c2
        repeat walk_at "rd"
        refine w_lc ?_
        repeat walk_at "rd"
        refine w_iListI h4 fun D nD => ?_
        refine lc_list (xs := ts.map V.ref) (fun m H' => Same H4 H' ∧ H' D = some (.lst (bitsV (fun k => if bitk j k > bitk i k then bitk j k else bitk i k) m))) ⟨same_upd nD, upd_same⟩ (fun m H' _ p => SqL.of (p.1 _ _ h4)) ?_ ?_
        · intro m x H' hm ⟨p1, p2⟩
          rw [List.getElem?_map] at hm
          obtain ⟨t, ht, rfl⟩ := Option.map_eq_some_iff.1 hm
          have ml : m < 64 := by rw [← tl]; exact (List.getElem?_eq_some_iff.1 ht).1
          refine w_gtup (p1 _ _ (tp m t ht)) rfl ?_
          repeat walk_at "rd"
          refine ⟨rfl, ?_⟩
          refine w_yes ?_
          refine iT ?_
          repeat walk_at "rd"
          exact ⟨_, p2, by rw [bitsV_len]; exact Nat.lt_trans ml (by decide), same_put p1 nD, by rw [upd_same, bitsV_succ]⟩
        intro H5 ⟨s5, h5⟩
        rw [List.length_map, tl] at h5
        repeat walk_at "rd"
        refine u_numOf h5 (fun k => ?_) ?_
        · rcases bitk01 i k with e | e <;> rcases bitk01 j k with e2 | e2 <;> rw [e, e2] <;> decide
        · rw [byB_or hi hj]
          exact q H5 (s04.trans s5)
      have c3 : wd = "bxor" := by
        rcases hw with h | h | h | h | h
        · exact absurd h c
        · exact absurd h c2
        · exact h
        · exact absurd (.inl h) sh
        · exact absurd (.inr h) sh
      subst c3
      repeat walk_at "rd"
      refine w_lc ?_
      repeat walk_at "rd"
      refine w_iListI h4 fun D nD => ?_
      refine lc_list (xs := ts.map V.ref) (fun m H' => Same H4 H' ∧ H' D = some (.lst (bitsV (fun k => if bitk i k = bitk j k then 0 else 1) m))) ⟨same_upd nD, upd_same⟩ (fun m H' _ p => SqL.of (p.1 _ _ h4)) ?_ ?_
      · intro m x H' hm ⟨p1, p2⟩
        rw [List.getElem?_map] at hm
        obtain ⟨t, ht, rfl⟩ := Option.map_eq_some_iff.1 hm
        have ml : m < 64 := by rw [← tl]; exact (List.getElem?_eq_some_iff.1 ht).1
        refine w_gtup (p1 _ _ (tp m t ht)) rfl ?_
        repeat walk_at "rd"
        refine ⟨rfl, ?_⟩
        refine w_yes ?_
        refine iT ?_
        repeat walk_at "rd"
        refine ⟨_, p2, by rw [bitsV_len]; exact Nat.lt_trans ml (by decide), same_put p1 nD, ?_⟩
        rw [upd_same, bitsV_succ]
        congr 4
        by_cases e : bitk i m = bitk j m
        · rw [if_pos e, decide_eq_true e]; rfl
        · rw [if_neg e, decide_eq_false e]; rfl
      intro H5 ⟨s5, h5⟩
      rw [List.length_map, tl] at h5
      repeat walk_at "rd"
      refine u_numOf h5 (fun k => ?_) ?_
      · rcases bitk01 i k with e | e <;> rcases bitk01 j k with e2 | e2 <;> rw [e, e2] <;> decide
      · rw [byB_xor hi hj]
        exact q H5 (s04.trans s5)
end
end Nu

set_option Elab.async false
set_option linter.all false
set_option maxRecDepth 100000
set_option autoImplicit false
set_option maxHeartbeats 4000000
namespace Rd
open PySem PySem.Spec PyProof.Rows L2 LamX
/-- a statement's reading where the frame has n slots -/
theorem ps_len {X : Cx} {st : Stmt} {t : TS} (n : Nat) (h : PS X st t) (hn : X.N.length = n := by rfl) : PS X st (fun D σ H => σ.length = n → t D σ H) := ⟨fun pins s σ H D I q => h.run pins s σ H D I (q (I.len.trans hn))⟩
section
variable {X : Cx}
/-- x(lambda: body), x a def of the text -/
theorem pe_lamF {T : List (Addr × Str)} {TT : (XK → Hp → VK → Prop) → Hp → VK → Prop} {x a : Str} {c Pt : Addr} {k : Nat} {st : Stmt} {Ng : List Str} {params : Arguments} {body : Expr} {scope : Scope} {t : XK → TE} {p lpos pos : Pos} (tx : Tx X.K X.mg x x st [a]) (Sg : FnScope Ng [a] (defScope st)) (hNg : Ng[0]? = some a) (hva : Vis (defScope st) a)
    (hG : ∀ (g : Addr) (cdg : Value), GivesTo X Ng x (defScope st) g cdg (defBody st) a (X.env.qual ++ "<lambda>") TT) (hg : Gl X x) (TB : TabB X.base X.mg c Pt) (hcode : X.env.code = .ref c) (hmT : (Pt, X.env.qual ++ "<lambda>") ∈ T) (hu : ∀ p ∈ T, p.1 = Pt → p.2 = X.env.qual ++ "<lambda>") (hr : Room (k + 2) X.A)
    (L : LamS X.env.scope scope) (hdef : defaultsOf params X.env = ([], [])) (hbind : ∀ (q : Str) (cl : List (Str × Addr)) (pm cv ctv : Value), bindArgs (PySem.W.kla_fn "<lambda>" q params body scope cl pm cv ctv) ⟨[], []⟩ = pure [])
    (hbody : ∀ (A : Around) (outer : List Env) (s : Shared) (H : Hp) (E : XK) (f c' : Addr), Room k (A.deeper (lamEnv X scope s.heap.objs.size f c')) → PE (lamCx X A outer s H E scope f c') body (t E))
    (hdb : (x == ("__debug__" : Str)) = false := by decide) (hd : (a == ("__debug__" : Str)) = false := by decide) (hcd : (a == ("__classdict__" : Str)) = false := by decide) : PE X (.Call (.Name x p) [.Lambda params body scope lpos] [] pos) (tLam T TT t) := by
  obtain ⟨f, fd, hm, F, hb⟩ := tx.ex
  obtain ⟨oc, od, kV, doc, pm, an, cdv, ct, osl, rfl, lk, hc⟩ := F.ex
  exact pe_lamcall hg hm F.kp lk hc hb Sg hNg hva (hG f cdv) TB hcode hmT hu hr L hdef hbind hbody hdb hd hcd
end
end Rd
namespace Nu
open PySem PySem.Spec PyProof.Rows L2 Rd LamX
local macro_rules | `(tactic| walk_at "hp") => `(tactic| first | assumption | (refine same_get ?sm ?_; (case sm => assumption); walk_at "hp"))
local macro_rules | `(tactic| walk_at "rd") => `(tactic| first
  | with_reducible refine w_nx ?_
  | with_reducible refine w_rt ?_
  | with_reducible refine w_bk ?_
  | with_reducible refine w_ct ?_
  | with_reducible refine w_seq ?_
  | with_reducible refine w_next ?_
  | with_reducible refine w_ret ?_
  | with_reducible refine w_ifS ?_
  | with_reducible refine w_asg ?_
  | with_reducible refine w_name ?_
  | with_reducible refine w_par ?_
  | with_reducible refine w_parI ?_
  | with_reducible refine w_ii ?_
  | with_reducible refine w_i1 ?_
  | with_reducible refine w_drop ?_
  | with_reducible refine w_sFld ?_
  | ((with_reducible refine' w_var ?rdh ?_); (case rdh => exact rfl))
  | with_reducible refine w_c ?_
  | with_reducible refine w_op ?_
  | with_reducible refine w_un ?_
  | with_reducible refine w_I0 ?_
  | with_reducible refine w_U ?_
  | with_reducible refine w_bits ?_
  | with_reducible refine w_bitsI ?_
  | with_reducible refine w_tup ?_
  | with_reducible refine w_lst ?_
  | with_reducible refine w_nil ?_
  | with_reducible refine w_cons ?_
  | with_reducible refine w_fld ?_
  | with_reducible refine w_call ?_
  | with_reducible refine w_make ?_
  | with_reducible refine w_gsub ?_
  | with_reducible refine w_int1 ?_
  | with_reducible refine w_intB ?_
  | with_reducible refine w_for ?_
  | with_reducible refine w_rng1 ?_
  | with_reducible refine w_iList ?_
  | with_reducible refine w_iTup ?_
  | with_reducible refine w_makeD ?_
  | with_reducible refine w_nn ?_
  | with_reducible refine w_subB ?_
  | with_reducible refine w_meth ?_
  | with_reducible refine w_cb ?_
  | with_reducible refine w_test ?_
  | with_reducible refine w_B ?_
  | with_reducible refine w_bl ?_
  | with_reducible refine w_andV ?_
  | with_reducible refine w_orV ?_
  | with_reducible refine w_notV ?_
  | with_reducible refine w_and ?_
  | with_reducible refine w_or ?_
  | with_reducible refine w_not ?_
  | with_reducible refine w_if ?_
  | with_reducible refine w_gnil ?_
  | with_reducible refine w_gcons ?_
  | with_reducible refine iT ?_
  | with_reducible refine iF ?_
  | with_reducible refine w_eqI ?_
  | with_reducible refine w_neI ?_
  | with_reducible refine w_eqS ?_
  | with_reducible refine w_eqIS ?_
  | with_reducible refine w_eqSI ?_)

theorem sc_law_said : FnScope ["ask", "e"] ["ask"] (defScope s_law_said) := ⟨rfl, rfl, rfl, by decide +kernel, rfl, by decide +kernel, by decide +kernel⟩
/-- what is said of a lambda: what it gives, or the thrown value in a list -/
def TTs (CE : Addr) : (XK → Hp → VK → Prop) → Hp → VK → Prop := fun tl H Q =>
  tl (fun cls d H' => cls = .ref CE ∧ ∃ (dd : Addr) (fs : List (Str × L2.V)) (v : L2.V), d = some dd ∧ H' dd = some (.xd fs) ∧ fs.lookup ("value" : Str) = some v ∧ ∀ p, H' p = none → Q (.ref p) (upd H' p (.lst [v]))) H Q
theorem said_gives {X : Cx} {CE : Addr} {q : Str} (hm : X.mg "Thrown" = some (.ref CE)) (xf : XfC X.K CE) (xn : PySem.W.findIn X.K (.ref CE) "value" = some none) (ex : PySem.W.exmOne X.K (.ref CE) (.ref CE) = some true) (g : Addr) (cdg : Value) :
    GivesTo X ["ask", "e"] "_law_said" (defScope s_law_said) g cdg (defBody s_law_said) "ask" q (TTs CE) := by
  intro f c' s H Q tl act hc h
  refine ⟨_, pss_one (ps_try_as (i := 1) (tb := fun W D σ H => ∃ Ech : XK, (∀ cls d σ' H', Ech cls d H' → W cls d σ' H') ∧ σ[0]? = some (some (.ref f)) ∧ H c' = some (CodeO c' q) ∧ tl Ech H D.rt)
    (ts := fun a cls d D σ H => σ.length = 2 → tRet (tLst (tCons (tXf a cls d CE "value" (tVar 1)) tNil)) D σ H) rfl rfl sc_law_said.nd rfl rfl ⟨rfl, by decide, Or.inl hm⟩ L2.takes0 (fun W pn xe tk _ => ?_)
    (fun a oe cls d pn hz hf => pss_one (ps_len 2 (ps_ret (pe_lst (pa_cons (pe_xf xf xn hz hf (pv 1)) pa_nil)))))), ?_⟩
  · refine ⟨fun pins s' σ H' D I h' => ?_⟩
    obtain ⟨Ech, hW, h1, h2, h3⟩ := h'
    exact (pss_one (ps_ret (act W pn xe Ech _ _ tk hW))).run pins s' σ H' D I ⟨h1, h2, h3⟩
  · refine ⟨fun cls d H' => cls = .ref CE ∧ ∃ (dd : Addr) (fs : List (Str × L2.V)) (v : L2.V), d = some dd ∧ H' dd = some (.xd fs) ∧ fs.lookup ("value" : Str) = some v ∧ ∀ p, H' p = none → Q (.ref p) (upd H' p (.lst [v])), ?_, rfl, hc, h⟩
    rintro cls d σ' H' ⟨rfl, dd, fs, v, rfl, e, l, qq⟩
    refine ⟨true, ex, fun _ a ha hl => ?_, fun z => nomatch z⟩
    have hl2 : (σ'.set 1 (some (V.ref a)))[1]? = some (some (V.ref a)) := by
      rw [List.length_set] at hl
      simp [List.getElem?_set, hl]
    refine w_ret (w_lst (w_cons (w_xf (w_var hl2 ⟨rfl, rfl, dd, fs, v, rfl, e, l, ?_⟩))))
    exact w_nil ⟨by show 1 ≤ sizeLine; decide, fun p hp => qq p hp⟩
section
variable {P : Program} {w : World} {K : PySem.W.Frag} {mg : Str → Option Value} {base : Heap} {CF CE CC PT : Addr}
def qLam : Str := (envOfC "_law_pair_right" (defScope s_law_pair_right) 0 0 .none).qual ++ "<lambda>"
def TLof (PT : Addr) : List (Addr × Str) := [(PT, qLam)]
theorem tl_mem : (PT, qLam) ∈ TLof PT := List.mem_cons_self
theorem tl_one : ∀ p ∈ TLof PT, p.1 = PT → p.2 = qLam := fun p hp _ => by
  rw [List.mem_singleton.1 hp]
/-- all but the tables stays, and the tables are well -/
structure EN (PT : Addr) (H H' : Hp) : Prop where
  e : ExtN H H'
  t : Tabs (TLof PT) H'
theorem EN.same {H H1 H2 : Hp} (a : EN PT H H1) (s : Same H1 H2) : EN PT H H2 := ⟨a.e.trans (.of s), a.t.ext s⟩
theorem EN.trans {H H1 H2 : Hp} (a : EN PT H H1) (b : EN PT H1 H2) : EN PT H H2 := ⟨a.e.trans b.e, b.t⟩
theorem NmAt.ext {H H' : Hp} {x : L2.V} : ∀ {n : Nm}, NmAt CF H x n → ExtN H H' → NmAt CF H' x n
  | .int _, h, _ => h
  | .fl _, ⟨a, e, ⟨dx, h⟩, o⟩, s => ⟨a, e, ⟨dx, s _ _ h fun ps z => by cases z⟩, o⟩
theorem lst_ext {H H' : Hp} {a : Addr} {xs : List L2.V} (h : H a = some (.lst xs)) (s : ExtN H H') : H' a = some (.lst xs) := s _ _ h fun ps z => by cases z
theorem w_lam {T : List (Addr × Str)} {TT : (XK → Hp → VK → Prop) → Hp → VK → Prop} {t : XK → TE} {σ : L2.St} {H : Hp} {Q : VK} (hT : Tabs T H) (q : ∀ H1, ExtN H H1 → Tabs T H1 → TT (fun E H' Q' => t E σ H' Q') H1 Q) : tLam T TT t σ H Q := ⟨hT, q⟩
/-- a def whose code object is known -/
theorem fun_okC {x qual : Str} {st : Stmt} {f c : Addr} {fd : FuncData} {N ps : List Str} {k : Nat} {sp : Sp} (F : Fun K x qual st f fd) (hc : fd.code = .ref c) (S : FnScope N ps (defScope st)) (len : ∀ vs H Q E, sp vs H Q E → vs.length = ps.length)
    (hbody : ∀ (A : Around) (outer : List Env) (s : Shared) (H : Hp) (vs : List L2.V) (Q : VK) (E : XK), Room k (A.deeper (envOfC qual (defScope st) s.heap.objs.size f (.ref c))) → sp vs H Q E →
      ∃ t, PSs (cxOf CX0 P w K mg base N qual (defScope st) f (.ref c) A outer s H E).nox (defBody st) t ∧ t { nx := fun _ H' => Q .non H', rt := Q } (start N vs) H) : FnOk P w K mg base CX0 (k + 1) f fd ps sp := by
  obtain ⟨oc, od, kV, doc, pm, an, cdv, ct, osl, rfl, lk, hcd⟩ := F.ex
  have e : cdv = .ref c := hc
  subst e
  refine fn_of lk hcd S len fun A outer s H vs Q E hr hsp => ?_
  obtain ⟨t, h, q⟩ := hbody A outer s H vs Q E hr hsp
  exact ⟨t, h.nox, q⟩
def spPair (CF PT : Addr) : Sp := fun vs H Q _ => ∃ x y n m, vs = [x, y] ∧ NmAt CF H x n ∧ NmAt CF H y m ∧ NmI n ∧ NmI m ∧ Tabs (TLof PT) H ∧ ∀ H', EN PT H H' → Q (.bl true) H'
theorem ov_some {n : Nm} {i : Int} (e : wholeM n = some i) : ov (wholeM n) = .int i := by rw [e]; rfl
theorem ov_none {n : Nm} (e : wholeM n = none) : ov (wholeM n) = .non := by rw [e]; rfl
theorem sc_law_pair_right : FnScope ["one", "other", "first", "second", "none", "word", "due", "bit"] ["one", "other"] (defScope s_law_pair_right) := ⟨rfl, rfl, rfl, by decide +kernel, rfl, by decide +kernel, by decide +kernel⟩
theorem ok_pair (T : AllP K mg CF CE CC) (TB : TabB base mg CC PT) (k_law_whole : Kn P w K mg base CX0 1 "_law_whole" ["number"] (spWhole CF)) (k_whole_of : Kn P w K mg base CX0 2 "whole_of" ["number"] (spWhole CF)) (k_law_due : Kn P w K mg base CX0 2 "_law_due" ["word", "one", "other"] spDue)
    (k_arith : Kn P w K mg base (L2.CX P w) 4 "arith" ["word", "one", "other"] (spAriB CF CE)) (k_bit_not : Kn P w K mg base (L2.CX P w) 4 "bit_not" ["number"] (spNot CF CE)) (k_law_bits : Kn P w K mg base CX0 1 "_law_bits" ["number"] spBitsOf) (k_law_number_of : Kn P w K mg base CX0 1 "_law_number_of" ["bits"] spNumOf)
    (k_negated : Kn P w K mg base CX0 4 "negated" ["number"] (spNeg CF)) (k_Float_init : KnC P w K mg base CX0 2 "Float" CF ["self", "sign", "top", "power"] (spInit CF)) (k_Float_eq : KnM P w K mg base CX0 1 CF "__eq__" ["self", "other"] (spFEq CF)) :
    Kn P w K mg base CX0 8 "_law_pair_right" ["one", "other"] (spPair CF PT) := by
  obtain ⟨f, fd, hm, F, hb, hcode⟩ := T.x_pair
  refine ⟨f, fd, hm, F.kp, hb, ?_⟩
  refine fun_okC F hcode sc_law_pair_right (fun vs H Q E h => ?_) (fun A outer s H vs Q E hr h => ?_)
  · obtain ⟨x, y, n, m, rfl, _⟩ := h
    rfl
  · obtain ⟨x, y, n, m, rfl, hn, hm, ni, mi, tb, q⟩ := h
    refine ⟨_, (pss_cons (ps_par (by rfl) sc_law_pair_right.nd (i := 2) (j := 3) rfl rfl (by decide) rfl rfl (pa_cons (pk k_law_whole hr (pa_cons (pv 0) pa_nil)) (pa_cons (pk k_law_whole hr (pa_cons (pv 1) pa_nil)) pa_nil)) (by rfl))
      (pss_cons (ps_set (i := 4) sc_law_pair_right.nd rfl (Or.inl rfl) (pe_lst (pa_cons pe_str pa_nil)))
      (pss_cons (ps_if (PW.pt (pw_or (pt_cmpR op_ne (pk k_whole_of hr (pa_cons (pv 0) pa_nil)) (pv 2) (nomark _)) (pw_or1 (pt_val (pe_callB call_isi (by rfl) T.b_isinstance boot_isinstance (pa_cons (pk k_whole_of hr (pa_cons (pv 0) pa_nil)) (pa_cons (pg "Float" T.g_Float (rref _)) pa_nil))))))) (pss_one (ps_ret pe_bl)) pss_nil)
      (pss_cons (ps_for PassesOwn.never rfl (pi_list (pe_lst (pa_cons pe_str (pa_cons pe_str (pa_cons pe_str (pa_cons pe_str (pa_cons pe_str pa_nil))))))) (pg_name (i := 5) sc_law_pair_right.nd rfl (Or.inr rfl))
      (pss_cons (ps_set (i := 6) sc_law_pair_right.nd rfl (Or.inl rfl) (pv 4))
      (C8.pss_cut (ps_if (PW.pt (pw_and (pt_cmpR op_notN (pv 2) pe_non (nomark _)) (pw_and1 (pt_cmpR op_notN (pv 3) pe_non (nomark _))))) (pss_one (ps_set (i := 6) sc_law_pair_right.nd rfl (Or.inl rfl) (pk k_law_due hr (pa_cons (pv 5) (pa_cons (pv 2) (pa_cons (pv 3) pa_nil)))))) pss_nil)
      (pss_one (ps_if (pt_cmpR (op_neD hr.units) (pe_lamF (T := TLof PT) T.x_said sc_law_said rfl (by first | exact Or.inl rfl | exact Or.inr (Or.inl rfl)) (said_gives T.g_Thrown T.xf_Thrown T.xn_value T.e_Thrown) rfl TB rfl tl_mem tl_one (hr.mono (by decide : 6 ≤ 7)) (show LamS (defScope s_law_pair_right) _ from lamS_by (by decide +kernel)) rfl (fun _ _ _ _ _ => rfl) (fun A outer s H E f c hr => (pkX k_arith hr (takes_of rfl rfl rfl rfl) (pa_cons (pv 5) (pa_cons (pv 0) (pa_cons (pv 1) pa_nil)))))) (pv 6) (nomark _)) (pss_one (ps_ret pe_bl)) pss_nil)))))
      (pss_cons (ps_set (i := 6) sc_law_pair_right.nd rfl (Or.inl rfl) (pv 4))
      (C8.pss_cut (ps_if (pt_cmpR op_notN (pv 2) pe_non (nomark _)) (pss_one (ps_set (i := 6) sc_law_pair_right.nd rfl (Or.inl rfl) (pk k_law_number_of hr (pa_cons (pe_lc (own := [("bit", 7)]) (g := (gName 7)) (tt := tYes) rfl sc_law_pair_right.nd (pi_list (pk k_law_bits hr (pa_cons (pv 2) pa_nil))) (blkOk_by (N := ["one", "other", "first", "second", "none", "word", "due", "bit"]) (sc := defScope s_law_pair_right) (by decide +kernel)) (fun _ _ _ _ _ => (pg_name (i := 7) sc_law_pair_right.nd rfl (Or.inl rfl))) (fun _ _ _ _ _ => pts_nil) (fun _ _ _ _ _ => (pe_op op_sub pe_int (pv 7)))) pa_nil)))) pss_nil)
      (C8.pss_cut (ps_if (pt_cmpR (op_neD hr.units) (pe_lamF (T := TLof PT) T.x_said sc_law_said rfl (by first | exact Or.inl rfl | exact Or.inr (Or.inl rfl)) (said_gives T.g_Thrown T.xf_Thrown T.xn_value T.e_Thrown) rfl TB rfl tl_mem tl_one (hr.mono (by decide : 6 ≤ 7)) (show LamS (defScope s_law_pair_right) _ from lamS_by (by decide +kernel)) rfl (fun _ _ _ _ _ => rfl) (fun A outer s H E f c hr => (pkX k_bit_not hr (takes_of rfl rfl rfl rfl) (pa_cons (pv 0) pa_nil)))) (pv 6) (nomark _)) (pss_one (ps_ret pe_bl)) pss_nil)
      (pss_cons (ps_if (pt_val (pe_callB call_isi (by rfl) T.b_isinstance boot_isinstance (pa_cons (pv 0) (pa_cons (pe_bltn (by rfl) T.b_int boot_int (rty _)) pa_nil)))) (pss_one (ps_ret (pe_cmpR op_eq (pk k_negated hr (pa_cons (pv 0) pa_nil)) (pe_ifExp (pt_cmpR op_eq (pv 0) (pe_un un_neg (pe_op op_shlW pe_int pe_int)) (nomark _)) (pv 0) (pe_op op_sub pe_int (pv 0))) (nomark _)))) pss_nil)
      (pss_one (ps_ret (pe_cmpR (op_eqOwn k_Float_eq hr) (pk k_negated hr (pa_cons (pv 0) pa_nil)) (pe_ifExp (pt_cmpR op_eq (pe_fld (pv 0) rfl) pe_str (nomark _)) (pv 0) (pkC k_Float_init hr (pa_cons (pe_op op_sub pe_int (pe_fld (pv 0) rfl)) (pa_cons (pe_fld (pv 0) rfl) (pa_cons (pe_fld (pv 0) rfl) pa_nil))))) (nomark _)))))))))))), ?_⟩
    repeat walk_at "rd"
    refine ⟨x, n, rfl, hn, fun H1 s1 => ?_⟩
    repeat walk_at "rd"
    refine ⟨y, m, rfl, hm.same s1, fun H2 s2 => ?_⟩
    repeat walk_at "rd"
    refine w_lst1 fun ln H3 s3 n3 h3 => ?_
    repeat walk_at "rd"
    have hn3 := ((hn.same s1).same s2).same s3
    refine ⟨x, n, rfl, hn3, fun H4 s4 => ?_⟩
    repeat walk_at "rd"
    refine w_ne (by cases wholeM n <;> rfl) ?_
    rw [decide_eq_true rfl]
    repeat walk_at "rd"
    refine iF ?_
    repeat walk_at "rd"
    refine ⟨x, n, rfl, hn3.same s4, fun H5 s5 => ?_⟩
    repeat walk_at "rd"
    obtain ⟨ty, tyx, ki⟩ : ∃ t, TyX K H5 (ov (wholeM n)) t ∧ PySem.W.kitOne K t (.ref CF) = some false := by
      cases wholeM n with
      | none => exact ⟨_, .base .non, T.i_nonF⟩
      | some i => exact ⟨_, .base (.int i), T.i_intF⟩
    refine w_isi (.own CF) tyx ki ?_
    repeat walk_at "rd"
    refine w_lstI (by show 5 ≤ 1000; decide) fun L H6 s6 n6 h6 => ?_
    refine w_iListI h6 ?_
    have s06 := ((((s1.trans s2).trans s3).trans s4).trans s5).trans s6
    have h3 : H6 ln = some (.lst [.str noInt]) := s6 _ _ (s5 _ _ (s4 _ _ h3))
    have hn6 := hn.same s06
    have hm6 := hm.same s06
    have en0 : EN PT H H6 := ⟨.of s06, tb.ext s06⟩
    have dN : PyData.eqv (.list [.str noInt]) (.list [.str noInt]) = true := by decide +kernel
    have dS : SeqAt.shaped (.list [.str noInt]) = true := by decide +kernel
    have dI : ∀ i : Int, SeqAt.shaped (.int i) = true := fun i => by simp [SeqAt.shaped, PyData.canLay0, PyData.depth]
    have dE : ∀ i : Int, PyData.eqv (.int i) (.int i) = true := fun i => by simp [PyData.eqv]
    clear s1 s2 s3 s4 s5 s6 n3 n6 tyx ki hn3
    refine for_list (xs := [V.str "band", .str "bor", .str "bxor", .str "shl", .str "shr"]) (fun _ σ H' => ∃ c d, σ = [some x, some y, some (ov (wholeM n)), some (ov (wholeM m)), some (.ref ln), c, d, none] ∧ EN PT H6 H') ⟨_, _, rfl, ExtN.refl _, en0.t⟩ (fun i σ H' _ ⟨_, _, _, h⟩ => SqL.of (lst_ext h6 h.e)) ?_ ?_
    · rintro i v σ H7 hi ⟨c, d, rfl, e7⟩
      obtain ⟨wd, rfl, hw⟩ : ∃ wd, v = .str wd ∧ Wd wd := by
        have := List.mem_of_getElem? hi
        simp only [List.mem_cons, List.not_mem_nil, or_false] at this
        rcases this with rfl | rfl | rfl | rfl | rfl
        · exact ⟨_, rfl, .inl rfl⟩
        · exact ⟨_, rfl, .inr (.inl rfl)⟩
        · exact ⟨_, rfl, .inr (.inr (.inl rfl))⟩
        · exact ⟨_, rfl, .inr (.inr (.inr (.inl rfl)))⟩
        · exact ⟨_, rfl, .inr (.inr (.inr (.inr rfl)))⟩
      repeat walk_at "rd"
      refine w_cut (Mid := fun σ' H' => ∃ dv, σ' = [some x, some y, some (ov (wholeM n)), some (ov (wholeM m)), some (.ref ln), some (.str wd), some dv, none] ∧ EN PT H6 H' ∧
        ((∃ i j, wholeM n = some i ∧ wholeM m = some j ∧ dv = .int (byB wd i j)) ∨ ((wholeM n = none ∨ wholeM m = none) ∧ dv = .ref ln))) ?_ ?_
      · repeat walk_at "rd"
        cases en : wholeM n with
        | none =>
          repeat walk_at "rd"
          refine iN (fun z => absurd rfl z) (fun _ => ?_)
          repeat walk_at "rd"
          exact ⟨_, rfl, e7, .inr ⟨.inl rfl, rfl⟩⟩
        | some i =>
          repeat walk_at "rd"
          refine iN (fun _ => ?_) (fun z => nomatch z)
          repeat walk_at "rd"
          cases em : wholeM m with
          | none =>
            repeat walk_at "rd"
            refine iN (fun z => absurd rfl z) (fun _ => ?_)
            repeat walk_at "rd"
            exact ⟨_, rfl, e7, .inr ⟨.inr rfl, rfl⟩⟩
          | some j =>
            repeat walk_at "rd"
            refine iN (fun _ => ?_) (fun z => nomatch z)
            repeat walk_at "rd"
            refine ⟨wd, i, j, rfl, hw, wholeM_in ni en, wholeM_in mi em, fun H8 s8 => ?_⟩
            repeat walk_at "rd"
            exact ⟨_, rfl, e7.same s8, .inl ⟨i, j, rfl, rfl, rfl⟩⟩
      rintro σ' H8 ⟨dv, rfl, e8, hdv⟩
      repeat walk_at "rd"
      refine w_lam e8.t fun H9 e9 t9 => ?_
      have e9 : EN PT H6 H9 := ⟨e8.e.trans e9, t9⟩
      unfold TTs
      refine w_callS ?_
      repeat walk_at "rd"
      refine ⟨wd, x, y, n, m, rfl, hw, hn6.ext e9.e, hm6.ext e9.e, ni, mi, ?_⟩
      rcases hdv with ⟨i, j, ei, ej, rfl⟩ | ⟨eno, rfl⟩
      · refine .inl ⟨i, j, ei, ej, fun H10 s10 => ?_⟩
        repeat walk_at "rd"
        refine ⟨_, _, .int _, .int _, dI _, dI _, ?_⟩
        rw [dE]
        repeat walk_at "rd"
        refine iF ?_
        repeat walk_at "rd"
        exact ⟨_, _, rfl, e9.same s10⟩
      · refine .inr ⟨eno, fun d H10 s10 e10 => ⟨rfl, d, _, _, rfl, e10, thr_value _, fun p hp => ?_⟩⟩
        have s11 := s10.trans (same_upd (o := .lst [.str noInt]) hp)
        have e11 := upd_same (H := H10) (a := p) (o := .lst [.str noInt])
        generalize upd H10 p (.lst [.str noInt]) = H11 at s11 e11 ⊢
        repeat walk_at "rd"
        have f11 := e9.same s11
        refine ⟨_, _, .lst (SqL.of e11) (.cons (.str _) .nil), .lst (SqL.of (lst_ext h3 f11.e)) (.cons (.str _) .nil), dS, dS, ?_⟩
        rw [dN]
        repeat walk_at "rd"
        refine iF ?_
        repeat walk_at "rd"
        exact ⟨_, _, rfl, f11⟩
    rintro σ H7 ⟨c, d, rfl, e7⟩
    repeat walk_at "rd"
    refine w_cut (Mid := fun σ' H' => ∃ dv b, σ' = [some x, some y, some (ov (wholeM n)), some (ov (wholeM m)), some (.ref ln), c, some dv, b] ∧ EN PT H6 H' ∧
      ((∃ i, wholeM n = some i ∧ dv = .int (-1 - i)) ∨ (wholeM n = none ∧ dv = .ref ln))) ?_ ?_
    · repeat walk_at "rd"
      cases en : wholeM n with
      | none =>
        repeat walk_at "rd"
        refine iN (fun z => absurd rfl z) (fun _ => ?_)
        repeat walk_at "rd"
        exact ⟨_, _, rfl, e7, .inr ⟨rfl, rfl⟩⟩
      | some i =>
        have hi := wholeM_in ni en
        repeat walk_at "rd"
        refine iN (fun _ => ?_) (fun z => nomatch z)
        repeat walk_at "rd"
        refine w_lc ?_
        repeat walk_at "rd"
        refine u_bits (in64_bits hi) fun B H8 s8 n8 h8 => ?_
        refine w_iListI h8 fun D nD => ?_
        refine lc_list (xs := bitsV (bitk i) 64) (fun k H' => Same H8 H' ∧ H' D = some (.lst (bitsV (fun k => 1 - bitk i k) k))) ⟨same_upd nD, upd_same⟩ (fun k H' _ p => SqL.of (p.1 _ _ h8)) ?_ ?_
        · intro k v H' hk ⟨p1, p2⟩
          have kl : k < 64 := by
            have := (List.getElem?_eq_some_iff.1 hk).1
            rwa [bitsV_len] at this
          rw [bitsV_get _ kl] at hk
          cases hk
          repeat walk_at "rd"
          refine ⟨rfl, ?_⟩
          refine w_yes ?_
          refine iT ?_
          repeat walk_at "rd"
          exact ⟨_, p2, by rw [bitsV_len]; exact Nat.lt_trans kl (by decide), same_put p1 nD, by rw [upd_same, bitsV_succ]⟩
        intro H9 ⟨s9, h9⟩
        rw [bitsV_len] at h9
        repeat walk_at "rd"
        refine u_numOf h9 (fun k => ?_) ?_
        · rcases bitk01 i k with e | e <;> rw [e] <;> decide
        · have en2 : numB (fun k => 1 - bitk i k) = -1 - i := by
            rw [← numB_bitk (x := -1 - i) (by unfold In64 at hi ⊢; omega)]
            exact numB_ext fun k _ => (bitk_not i k).symm
          rw [en2]
          repeat walk_at "rd"
          exact ⟨_, _, rfl, e7.same (s8.trans s9), .inl ⟨i, rfl, rfl⟩⟩
    rintro σ' H8 ⟨dv, b, rfl, e8, hdv⟩
    repeat walk_at "rd"
    refine w_cut (Mid := fun σ' H' => ∃ c1 c2 c3 c4, σ' = [some x, some y, c1, c2, some (.ref ln), c3, c4, b] ∧ EN PT H6 H') ?_ ?_
    · repeat walk_at "rd"
      refine w_lam e8.t fun H9 e9 t9 => ?_
      have e9 : EN PT H6 H9 := ⟨e8.e.trans e9, t9⟩
      unfold TTs
      refine w_callS ?_
      repeat walk_at "rd"
      refine ⟨x, n, rfl, hn6.ext e9.e, ?_⟩
      rcases hdv with ⟨i, ei, rfl⟩ | ⟨eno, rfl⟩
      · refine .inl ⟨i, ei, fun H10 s10 => ?_⟩
        repeat walk_at "rd"
        refine ⟨_, _, .int _, .int _, dI _, dI _, ?_⟩
        rw [dE]
        repeat walk_at "rd"
        refine iF ?_
        repeat walk_at "rd"
        exact ⟨_, _, _, _, rfl, e9.same s10⟩
      · refine .inr ⟨eno, fun d H10 s10 e10 => ⟨rfl, d, _, _, rfl, e10, thr_value _, fun p hp => ?_⟩⟩
        have s11 := s10.trans (same_upd (o := .lst [.str noInt]) hp)
        have e11 := upd_same (H := H10) (a := p) (o := .lst [.str noInt])
        generalize upd H10 p (.lst [.str noInt]) = H11 at s11 e11 ⊢
        repeat walk_at "rd"
        have f11 := e9.same s11
        refine ⟨_, _, .lst (SqL.of e11) (.cons (.str _) .nil), .lst (SqL.of (lst_ext h3 f11.e)) (.cons (.str _) .nil), dS, dS, ?_⟩
        rw [dN]
        repeat walk_at "rd"
        refine iF ?_
        repeat walk_at "rd"
        exact ⟨_, _, _, _, rfl, f11⟩
    rintro σ' H9 ⟨c1, c2, c3, c4, rfl, e9⟩
    have e63 : (1 : Int) * 2 ^ Int.toNat 63 = 9223372036854775808 := by decide
    have hn9 := hn6.ext e9.e
    obtain ⟨ty, tyx, _, ki⟩ := u_isF T hn9
    repeat walk_at "rd"
    refine w_isi (.ty "int") tyx ki ?_
    repeat walk_at "rd"
    match n, hn9, ni with
    | .int i, hn9, ni =>
      obtain ⟨rfl, _⟩ := id hn9
      refine iT ?_
      repeat walk_at "rd"
      refine ⟨_, _, rfl, hn9, fun z H10 s10 hz _ => ?_⟩
      have ez := hz i rfl
      subst ez
      repeat walk_at "rd"
      refine w_I (cshl (by decide) (by decide) (by decide)) ?_
      rw [e63]
      repeat walk_at "rd"
      refine iD (fun c => ?_) (fun c => ?_)
      · repeat walk_at "rd"
        rw [decide_eq_true (show wrapI (0 - i) = i by rw [show i = -9223372036854775808 from c]; decide)]
        exact q H10 (en0.trans (e9.same s10))
      · repeat walk_at "rd"
        rw [decide_eq_true (show wrapI (0 - i) = 0 - i from wrap_in (by
          have c : ¬ i = -9223372036854775808 := c
          have ni : In64 i := ni
          unfold In64 at ni ⊢
          omega))]
        exact q H10 (en0.trans (e9.same s10))
    | .fl f, hn9, ni =>
      obtain ⟨a, rfl, hf, ok⟩ := id hn9
      refine iF ?_
      repeat walk_at "rd"
      refine ⟨_, _, rfl, hn9, fun z H10 s10 _ hz => ?_⟩
      obtain ⟨b1, g, rfl, eg, hg⟩ := hz f rfl
      have hf := hf.same s10
      obtain ⟨dx, h1⟩ := id hf
      have e10 := en0.trans (e9.same s10)
      repeat walk_at "rd"
      refine w_fldI h1 T.l_Float T.n_top (flds_t _ _ _) ?_
      match f, ok, hf, h1, eg with
      | .nan, ok, hf, h1, eg =>
        cases eg
        refine w_c (w_eqS ?_)
        repeat walk_at "rd"
        refine iD (fun _ => ?_) (fun z => absurd rfl z)
        repeat walk_at "rd"
        exact u_eqF hg hf fun H11 s11 => q H11 (e10.same s11)
      | .inf s', ok, hf, h1, eg =>
        cases eg
        have ok : s' = 1 ∨ s' = -1 := ok
        refine w_c (w_eqS ?_)
        repeat walk_at "rd"
        refine iD (fun z => absurd z (by decide +kernel)) (fun _ => ?_)
        repeat walk_at "rd"
        refine w_fldI h1 T.l_Float T.n_sign (flds_s _ _ _) ?_
        repeat walk_at "rd"
        refine w_fldI h1 T.l_Float T.n_top (flds_t _ _ _) ?_
        repeat walk_at "rd"
        refine w_fldI h1 T.l_Float T.n_power (flds_p _ _ _) ?_
        repeat walk_at "rd"
        refine u_Float (f := .inf (0 - s')) (.inr (.inl ⟨rfl, rfl, by show 0 - s' = 1 ∨ 0 - s' = -1; omega, rfl⟩)) fun x2 H11 s11 n11 h11 => ?_
        exact u_eqF (hg.same s11) h11 fun H12 s12 => q H12 ((e10.same s11).same s12)
      | .fin s' t p, ok, hf, h1, eg =>
        cases eg
        refine w_c (w_eqIS ?_)
        repeat walk_at "rd"
        refine w_fldI h1 T.l_Float T.n_sign (flds_s _ _ _) ?_
        repeat walk_at "rd"
        refine w_fldI h1 T.l_Float T.n_top (flds_t _ _ _) ?_
        repeat walk_at "rd"
        refine w_fldI h1 T.l_Float T.n_power (flds_p _ _ _) ?_
        repeat walk_at "rd"
        refine u_Float (arg_neg ok) fun x2 H11 s11 n11 h11 => ?_
        exact u_eqF (hg.same s11) h11 fun H12 s12 => q H12 ((e10.same s11).same s12)
end
end Nu

set_option Elab.async false
set_option linter.all false
set_option maxRecDepth 100000
set_option autoImplicit false
set_option maxHeartbeats 4000000
namespace Nu
open PySem PySem.Spec PyProof.Rows L2 Rd LamX
local macro_rules | `(tactic| walk_at "hp") => `(tactic| first | assumption | (refine same_get ?sm ?_; (case sm => assumption); walk_at "hp"))
local macro_rules | `(tactic| walk_at "rd") => `(tactic| first
  | with_reducible refine w_nx ?_
  | with_reducible refine w_rt ?_
  | with_reducible refine w_bk ?_
  | with_reducible refine w_ct ?_
  | with_reducible refine w_seq ?_
  | with_reducible refine w_next ?_
  | with_reducible refine w_ret ?_
  | with_reducible refine w_ifS ?_
  | with_reducible refine w_asg ?_
  | with_reducible refine w_name ?_
  | with_reducible refine w_par ?_
  | with_reducible refine w_parI ?_
  | with_reducible refine w_ii ?_
  | with_reducible refine w_i1 ?_
  | with_reducible refine w_drop ?_
  | with_reducible refine w_sFld ?_
  | ((with_reducible refine' w_var ?rdh ?_); (case rdh => exact rfl))
  | with_reducible refine w_c ?_
  | with_reducible refine w_op ?_
  | with_reducible refine w_un ?_
  | with_reducible refine w_I0 ?_
  | with_reducible refine w_U ?_
  | with_reducible refine w_bits ?_
  | with_reducible refine w_bitsI ?_
  | with_reducible refine w_tup ?_
  | with_reducible refine w_lst ?_
  | with_reducible refine w_nil ?_
  | with_reducible refine w_cons ?_
  | with_reducible refine w_fld ?_
  | with_reducible refine w_call ?_
  | with_reducible refine w_make ?_
  | with_reducible refine w_gsub ?_
  | with_reducible refine w_int1 ?_
  | with_reducible refine w_intB ?_
  | with_reducible refine w_for ?_
  | with_reducible refine w_rng1 ?_
  | with_reducible refine w_iList ?_
  | with_reducible refine w_iTup ?_
  | with_reducible refine w_makeD ?_
  | with_reducible refine w_nn ?_
  | with_reducible refine w_subB ?_
  | with_reducible refine w_meth ?_
  | with_reducible refine w_cb ?_
  | with_reducible refine w_test ?_
  | with_reducible refine w_B ?_
  | with_reducible refine w_bl ?_
  | with_reducible refine w_andV ?_
  | with_reducible refine w_orV ?_
  | with_reducible refine w_notV ?_
  | with_reducible refine w_and ?_
  | with_reducible refine w_or ?_
  | with_reducible refine w_not ?_
  | with_reducible refine w_if ?_
  | with_reducible refine w_gnil ?_
  | with_reducible refine w_gcons ?_
  | with_reducible refine iT ?_
  | with_reducible refine iF ?_
  | with_reducible refine w_eqI ?_
  | with_reducible refine w_neI ?_
  | with_reducible refine w_eqS ?_
  | with_reducible refine w_eqIS ?_
  | with_reducible refine w_eqSI ?_)

section
variable {P : Program} {w : World} {K : PySem.W.Frag} {mg : Str → Option Value} {base : Heap} {CF CE CC PT : Addr}
theorem NmAt.oth {H H' : Hp} {x : L2.V} {p : Addr} {k : Nat} : ∀ {n : Nm}, NmAt CF H x n → Oth p H H' → Well k H p → NmAt CF H' x n
  | .int _, h, _, _ => h
  | .fl _, ⟨a, e, ⟨dx, h⟩, o⟩, s, ⟨_, _, _, hw, _⟩ => ⟨a, e, ⟨dx, s _ _ (fun z => by rw [z, hw] at h; cases h) h⟩, o⟩
theorem tabs_oth {H H' : Hp} {p : Addr} {k : Nat} (t : Tabs (TLof PT) H) (o : Oth p H H') (hw : Well k H p) : Tabs (TLof PT) H' := by
  obtain ⟨_, _, _, hw, _⟩ := hw
  intro q hq
  obtain ⟨ps, e1, e2, e3⟩ := t q hq
  refine ⟨ps, o _ _ (fun z => by rw [z, hw] at e1; cases e1) e1, e2, fun pos cv hc => ?_⟩
  obtain ⟨c, ec, e⟩ := e3 pos cv hc
  exact ⟨c, ec, o _ _ (fun z => by rw [z, hw] at e; cases e) e⟩
theorem Well.ext {n : Nat} {H H' : Hp} {p : Addr} (h : Well n H p) (s : ExtN H H') : Well n H' p := by
  obtain ⟨a, b, c, e, d⟩ := h
  exact ⟨a, b, c, lst_ext e s, d⟩
def spInt : Sp := fun vs H Q _ => ∃ (p : Addr) (n : Nat), vs = [.ref p] ∧ Well n H p ∧ n < 600000 ∧ ∀ i H', Oth p H H' → Well (n + 30) H' p → In64 i → Q (.int i) H'
theorem sc_law_int : FnScope ["well", "some"] ["well"] (defScope s_law_int) := ⟨rfl, rfl, rfl, by decide +kernel, rfl, by decide +kernel, by decide +kernel⟩
theorem ok_int (T : AllP K mg CF CE CC) (k_law_draw : Kn P w K mg base CX0 1 "_law_draw" ["well", "many"] spDraw) (k_law_one : Kn P w K mg base CX0 2 "_law_one" ["well", "some"] spOne) (k_law_great : Kn P w K mg base CX0 2 "_law_great" ["well", "bits"] spGreat) :
    Kn P w K mg base CX0 3 "_law_int" ["well"] spInt := by
  refine T.x_int.kn fun f fd F => ?_
  refine F.ok sc_law_int (fun vs H Q E h => ?_) (fun cdv A outer s H vs Q E hr h => ?_)
  · obtain ⟨p, n, rfl, _⟩ := h
    rfl
  · obtain ⟨p, n, rfl, hw, hn, q⟩ := h
    refine ⟨_, (pss_cons (ps_set (i := 1) sc_law_int.nd rfl (Or.inl rfl) (pe_lst (pa_cons (pe_op op_sub (pk k_law_draw hr (pa_cons (pv 0) (pa_cons pe_int pa_nil))) pe_int) (pa_cons (pe_op op_sub (pk k_law_great hr (pa_cons (pv 0) (pa_cons pe_int pa_nil))) (pe_op op_shlW pe_int pe_int)) (pa_cons (pe_un un_neg (pe_op op_shlW pe_int pe_int)) (pa_cons (pe_op op_sub (pe_op op_sub (pe_op op_shlW pe_int pe_int) pe_int) (pk k_law_draw hr (pa_cons (pv 0) (pa_cons pe_int pa_nil)))) pa_nil))))))
      (pss_one (ps_ret (pk k_law_one hr (pa_cons (pv 0) (pa_cons (pe_op op_cat (pv 1) (pe_lst (pa_cons (pe_op op_sub (pk k_law_great hr (pa_cons (pv 0) (pa_cons pe_int pa_nil))) (pe_op op_shlW pe_int pe_int)) pa_nil))) pa_nil)))))), ?_⟩
    have e63 : (1 : Int) * 2 ^ (63 : Int).toNat = 9223372036854775808 := by decide
    have e32 : (1 : Int) * 2 ^ (32 : Int).toNat = 4294967296 := by decide
    repeat walk_at "rd"
    refine u_draw hw (by omega) (by decide) (by decide) fun t1 H1 o1 w1 t1l t1u => ?_
    repeat walk_at "rd"
    refine u_great w1 (by omega) (by decide) (by decide) fun t2 H2 o2 w2 t2l t2u => ?_
    have t2u : t2 < 18446744073709551616 := t2u
    repeat walk_at "rd"
    refine w_I (cshl (i := 1) (j := 63) (by decide) (by decide) (by decide)) ?_
    rw [e63]
    repeat walk_at "rd"
    refine w_I (cshl (i := 1) (j := 63) (by decide) (by decide) (by decide)) ?_
    rw [e63]
    repeat walk_at "rd"
    refine w_I (cshl (i := 1) (j := 63) (by decide) (by decide) (by decide)) ?_
    rw [e63]
    repeat walk_at "rd"
    refine u_draw w2 (by omega) (by decide) (by decide) fun t3 H3 o3 w3 t3l t3u => ?_
    repeat walk_at "rd"
    refine w_lst4 fun a4 H4 s4 n4 h4 => ?_
    repeat walk_at "rd"
    have ne4 := w3.ne n4
    have o4 := ((o1.trans o2).trans o3).same s4
    refine u_great (w3.same s4) (by omega) (by decide) (by decide) fun t5 H5 o5 w5 t5l t5u => ?_
    have t5u : t5 < 8589934592 := t5u
    repeat walk_at "rd"
    refine w_I (cshl (i := 1) (j := 32) (by decide) (by decide) (by decide)) ?_
    rw [e32]
    have k5 : H5 a4 = _ := o5 _ _ ne4 h4
    have o5 := o4.trans o5
    repeat walk_at "rd"
    refine w_lst1 fun a7 H7 s7 n7 h7 => ?_
    repeat walk_at "rd"
    refine w_cat (s7 _ _ k5) h7 (by show 4 + 1 ≤ sizeLine; decide) fun a8 H8 s8 n8 h8 => ?_
    repeat walk_at "rd"
    have w8 := (w5.same s7).same s8
    refine u_one w8 (by omega) h8 ((w5.same s7).ne n8) (by show 0 < 5; decide) (by show 5 ≤ 1000; decide) fun v H9 hv o9 w9 => ?_
    obtain ⟨i, rfl, hi⟩ : ∃ i, v = .int i ∧ In64 i := by
      unfold In64
      simp only [List.cons_append, List.nil_append, List.mem_cons, List.not_mem_nil, or_false] at hv
      rcases hv with rfl | rfl | rfl | rfl | rfl <;> exact ⟨_, rfl, by omega, by omega⟩
    exact q i H9 (((o5.same s7).same s8).trans o9) (w9.mono (by omega)) hi
theorem u_int {p : Addr} {n : Nat} {H : Hp} {Q : VK} {E : XK} (hw : Well n H p) (hn : n < 600000) (q : ∀ i H', Oth p H H' → Well (n + 30) H' p → In64 i → Q (.int i) H') : spInt ([V.ref p] ++ []) H Q E := ⟨p, n, rfl, hw, hn, q⟩
theorem u_flt {p : Addr} {n : Nat} {H : Hp} {Q : VK} {E : XK} (hw : Well n H p) (hn : n < 700000) (q : ∀ x f H', Oth p H H' → Well (n + 50) H' p → FlAt CF H' x f → f.ok → Q (.ref x) H') : spFlt CF ([V.ref p] ++ []) H Q E := ⟨p, n, rfl, hw, hn, q⟩
theorem argF {s t p : Int} (hs : s = 1 ∨ s = -1) (t0 : 0 ≤ t) (t1 : t < 9007199254740992) (p0 : -1074 ≤ p) (p1 : p ≤ 971) : Arg s (.int t) p (.fin s (red t p).1 (red t p).2) := FinA.arg ⟨hs, t0, t1, p0, p1⟩
def spNumL (CF : Addr) : Sp := fun vs H Q _ => ∃ (p : Addr) (n : Nat), vs = [.ref p] ∧ Well n H p ∧ n < 500000 ∧ ∀ x m H', Oth p H H' → Well (n + 70) H' p → NmAt CF H' x m → NmI m → Q x H'
theorem sc_law_number : FnScope ["well", "way", "sign", "top"] ["well"] (defScope s_law_number) := ⟨rfl, rfl, rfl, by decide +kernel, rfl, by decide +kernel, by decide +kernel⟩
theorem ok_number (T : AllP K mg CF CE CC) (k_law_draw : Kn P w K mg base CX0 1 "_law_draw" ["well", "many"] spDraw) (k_law_one : Kn P w K mg base CX0 2 "_law_one" ["well", "some"] spOne) (k_law_int : Kn P w K mg base CX0 3 "_law_int" ["well"] spInt) (k_law_float : Kn P w K mg base CX0 4 "_law_float" ["well"] (spFlt CF))
    (k_Float_init : KnC P w K mg base CX0 2 "Float" CF ["self", "sign", "top", "power"] (spInit CF)) : Kn P w K mg base CX0 5 "_law_number" ["well"] (spNumL CF) := by
  refine T.x_number.kn fun f fd F => ?_
  refine F.ok sc_law_number (fun vs H Q E h => ?_) (fun cdv A outer s H vs Q E hr h => ?_)
  · obtain ⟨p, n, rfl, _⟩ := h
    rfl
  · obtain ⟨p, n, rfl, hw, hn, q⟩ := h
    refine ⟨_, (pss_cons (ps_set (i := 1) sc_law_number.nd rfl (Or.inl rfl) (pk k_law_draw hr (pa_cons (pv 0) (pa_cons pe_int pa_nil))))
      (pss_cons (ps_if (pt_cmpR op_lt (pv 1) pe_int (nomark _)) (pss_one (ps_ret (pk k_law_int hr (pa_cons (pv 0) pa_nil)))) pss_nil)
      (pss_cons (ps_if (pt_cmpR op_eq (pv 1) pe_int (nomark _)) (pss_one (ps_ret (pkC k_Float_init hr (pa_cons (pk k_law_one hr (pa_cons (pv 0) (pa_cons (pe_lst (pa_cons pe_int (pa_cons (pe_un un_neg pe_int) pa_nil))) pa_nil))) (pa_cons (pk k_law_draw hr (pa_cons (pv 0) (pa_cons pe_int pa_nil))) (pa_cons (pk k_law_draw hr (pa_cons (pv 0) (pa_cons pe_int pa_nil))) pa_nil)))))) pss_nil)
      (pss_cons (ps_if (pt_cmpR op_eq (pv 1) pe_int (nomark _)) (pss_cons (ps_par (by rfl) sc_law_number.nd (i := 2) (j := 3) rfl rfl (by decide) rfl rfl (pa_cons (pk k_law_one hr (pa_cons (pv 0) (pa_cons (pe_lst (pa_cons pe_int (pa_cons (pe_un un_neg pe_int) pa_nil))) pa_nil))) (pa_cons (pk k_law_one hr (pa_cons (pv 0) (pa_cons (pe_lst (pa_cons pe_int (pa_cons (pe_op op_sub (pe_op op_shlW pe_int pe_int) pe_int) (pa_cons pe_int pa_nil)))) pa_nil))) pa_nil)) (by rfl))
      (pss_one (ps_ret (pkC k_Float_init hr (pa_cons (pv 2) (pa_cons (pv 3) (pa_cons (pk k_law_one hr (pa_cons (pv 0) (pa_cons (pe_lst (pa_cons pe_int (pa_cons pe_int (pa_cons pe_int (pa_cons pe_int (pa_cons pe_int pa_nil)))))) pa_nil))) pa_nil))))))) pss_nil)
      (pss_one (ps_ret (pe_ifExp (pt_cmpR op_eq (pv 1) pe_int (nomark _)) (pk k_law_float hr (pa_cons (pv 0) pa_nil)) (pkC k_Float_init hr (pa_cons pe_int (pa_cons (pe_op op_add (pe_op op_mulX pe_int (pk k_law_draw hr (pa_cons (pv 0) (pa_cons pe_int pa_nil)))) pe_int) (pa_cons (pe_un un_neg pe_int) pa_nil))))))))))), ?_⟩
    have e53 : (1 : Int) * 2 ^ (53 : Int).toNat = 9007199254740992 := by decide
    repeat walk_at "rd"
    refine u_draw hw (by omega) (by decide) (by decide) fun way H1 o1 w1 r0 r1 => ?_
    repeat walk_at "rd"
    refine iD (fun _ => ?_) (fun _ => ?_)
    · repeat walk_at "rd"
      exact u_int w1 (by omega) fun i H2 o2 w2 hi => q _ (.int i) H2 (o1.trans o2) (w2.mono (by omega)) ⟨rfl, in64_bits hi⟩ hi
    repeat walk_at "rd"
    refine iD (fun _ => ?_) (fun _ => ?_)
    · repeat walk_at "rd"
      refine w_lst2 fun a2 H2 s2 n2 h2 => ?_
      repeat walk_at "rd"
      refine u_one (w1.same s2) (by omega) h2 (w1.ne n2) (by decide) (by decide) fun v H3 hv o3 w3 => ?_
      have o3 := (o1.same s2).trans o3
      obtain ⟨sg, rfl, hs⟩ : ∃ sg, v = .int sg ∧ (sg = 1 ∨ sg = -1) := by
        simp only [List.mem_cons, List.not_mem_nil, or_false] at hv
        rcases hv with rfl | rfl
        · exact ⟨_, rfl, .inl rfl⟩
        · exact ⟨_, rfl, .inr rfl⟩
      repeat walk_at "rd"
      refine u_draw w3 (by omega) (by decide) (by decide) fun t H4 o4 w4 t0 t1 => ?_
      repeat walk_at "rd"
      refine u_draw w4 (by omega) (by decide) (by decide) fun pw H5 o5 w5 p0 p1 => ?_
      repeat walk_at "rd"
      have ag := argF hs t0 (show t < 9007199254740992 by omega) (show -1074 ≤ pw by omega) (by omega)
      exact u_Float ag fun x H6 s6 n6 h6 => q _ (.fl _) H6 (((o3.trans o4).trans o5).same s6) ((w5.same s6).mono (by omega)) ⟨x, rfl, h6, ag.ok⟩ trivial
    repeat walk_at "rd"
    refine iD (fun _ => ?_) (fun _ => ?_)
    · repeat walk_at "rd"
      refine w_lst2 fun a2 H2 s2 n2 h2 => ?_
      repeat walk_at "rd"
      refine u_one (w1.same s2) (by omega) h2 (w1.ne n2) (by decide) (by decide) fun v H3 hv o3 w3 => ?_
      have o3 := (o1.same s2).trans o3
      obtain ⟨sg, rfl, hs⟩ : ∃ sg, v = .int sg ∧ (sg = 1 ∨ sg = -1) := by
        simp only [List.mem_cons, List.not_mem_nil, or_false] at hv
        rcases hv with rfl | rfl
        · exact ⟨_, rfl, .inl rfl⟩
        · exact ⟨_, rfl, .inr rfl⟩
      repeat walk_at "rd"
      refine w_I (cshl (i := 1) (j := 53) (by decide) (by decide) (by decide)) ?_
      rw [e53]
      repeat walk_at "rd"
      refine w_lst3 fun a4 H4 s4 n4 h4 => ?_
      repeat walk_at "rd"
      refine u_one (w3.same s4) (by omega) h4 (w3.ne n4) (by decide) (by decide) fun v H5 hv o5 w5 => ?_
      have o5 := (o3.same s4).trans o5
      obtain ⟨t, rfl, t0, t1⟩ : ∃ t, v = .int t ∧ 0 ≤ t ∧ t < 9007199254740992 := by
        simp only [List.mem_cons, List.not_mem_nil, or_false] at hv
        rcases hv with rfl | rfl | rfl <;> exact ⟨_, rfl, by decide, by decide⟩
      repeat walk_at "rd"
      refine w_lstI (by show 5 ≤ 1000; decide) fun a6 H6 s6 n6 h6 => ?_
      repeat walk_at "rd"
      refine u_one (w5.same s6) (by omega) h6 (w5.ne n6) (by show 0 < 5; decide) (by show 5 ≤ 1000; decide) fun v H7 hv o7 w7 => ?_
      have o7 := (o5.same s6).trans o7
      obtain ⟨pw, rfl, p0, p1⟩ : ∃ pw, v = .int pw ∧ -1074 ≤ pw ∧ pw ≤ 971 := by
        simp only [List.mem_cons, List.not_mem_nil, or_false] at hv
        rcases hv with rfl | rfl | rfl | rfl | rfl <;> exact ⟨_, rfl, by decide, by decide⟩
      repeat walk_at "rd"
      have ag := argF hs t0 t1 p0 p1
      exact u_Float ag fun x H8 s8 n8 h8 => q _ (.fl _) H8 (o7.same s8) ((w7.same s8).mono (by omega)) ⟨x, rfl, h8, ag.ok⟩ trivial
    repeat walk_at "rd"
    refine iD (fun _ => ?_) (fun _ => ?_)
    · repeat walk_at "rd"
      exact u_flt w1 (by omega) fun x f H2 o2 w2 hx ok => q _ (.fl f) H2 (o1.trans o2) (w2.mono (by omega)) ⟨x, rfl, hx, ok⟩ trivial
    · repeat walk_at "rd"
      refine u_draw w1 (by omega) (by decide) (by decide) fun t H2 o2 w2 t0 t1 => ?_
      repeat walk_at "rd"
      refine w_I (cmulx (by decide) (Int.le_trans (bits_mono t0 (show t ≤ 99 by omega)) (by decide))) ?_
      repeat walk_at "rd"
      have ag := argF (s := 1) (.inl rfl) (show 0 ≤ 2 * t + 1 by omega) (by omega) (show -1074 ≤ -1 by decide) (by decide)
      exact u_Float ag fun x H3 s3 n3 h3 => q _ (.fl _) H3 ((o1.trans o2).same s3) ((w2.same s3).mono (by omega)) ⟨x, rfl, h3, ag.ok⟩ trivial
theorem u_num {p : Addr} {n : Nat} {H : Hp} {Q : VK} {E : XK} (hw : Well n H p) (hn : n < 500000) (q : ∀ x m H', Oth p H H' → Well (n + 70) H' p → NmAt CF H' x m → NmI m → Q x H') : spNumL CF ([V.ref p] ++ []) H Q E := ⟨p, n, rfl, hw, hn, q⟩
theorem u_pair {x y : L2.V} {n m : Nm} {H : Hp} {Q : VK} {E : XK} (hn : NmAt CF H x n) (hm : NmAt CF H y m) (ni : NmI n) (mi : NmI m) (t : Tabs (TLof PT) H) (q : ∀ H', EN PT H H' → Q (.bl true) H') : spPair CF PT ([x, y] ++ []) H Q E := ⟨x, y, n, m, rfl, hn, hm, ni, mi, t, q⟩
def spLaw (K : PySem.W.Frag) (PT : Addr) : Sp := fun vs H Q _ => ∃ (a : Addr) (ns : List Int), vs = [.ref a] ∧ SqL K H a (ns.map V.int) ∧ ns.length ≤ 63 ∧ (∀ z ∈ ns, bits z ≤ 1048576) ∧ Tabs (TLof PT) H ∧ ∀ H', Q (.bl true) H'
theorem sc_law : FnScope ["script", "cell", "well", "turn", "one", "other", "ends", "far"] ["script"] (defScope s_law) := ⟨rfl, rfl, rfl, by decide +kernel, rfl, by decide +kernel, by decide +kernel⟩
theorem ok_law (T : AllP K mg CF CE CC) (k_law_well : Kn P w K mg base CX0 1 "_law_well" ["cell"] spWell) (k_law_draw : Kn P w K mg base CX0 1 "_law_draw" ["well", "many"] spDraw) (k_law_one : Kn P w K mg base CX0 2 "_law_one" ["well", "some"] spOne) (k_law_number : Kn P w K mg base CX0 5 "_law_number" ["well"] (spNumL CF))
    (k_law_pair_right : Kn P w K mg base CX0 8 "_law_pair_right" ["one", "other"] (spPair CF PT)) (k_Float_init : KnC P w K mg base CX0 2 "Float" CF ["self", "sign", "top", "power"] (spInit CF)) {f : Addr} {fd : FuncData} (F : Fun K "law" "law" s_law f fd) : FnOk P w K mg base CX0 11 f fd ["script"] (spLaw K PT) := by
  refine F.ok sc_law (fun vs H Q E h => ?_) (fun cdv A outer s H vs Q E hr h => ?_)
  · obtain ⟨a, ns, rfl, _⟩ := h
    rfl
  · obtain ⟨a, ns, rfl, hS, hl, hb, tb, q⟩ := h
    refine ⟨_, (pss_cons (ps_for PassesOwn.never rfl (pi_list (pe_slice sl_list (pe_op op_catS (pv 0) (pe_lst (pa_cons pe_int pa_nil))) po_none (po_some pe_int))) (pg_name (i := 1) sc_law.nd rfl (Or.inl rfl))
      (pss_cons (ps_set (i := 2) sc_law.nd rfl (Or.inl rfl) (pk k_law_well hr (pa_cons (pv 1) pa_nil)))
      (pss_one (ps_for PassesOwn.never rfl (pi_range1 rfl T.b_range (pa_cons pe_int pa_nil)) (pg_name (i := 3) sc_law.nd rfl (Or.inl rfl))
      (pss_cons (ps_par (by rfl) sc_law.nd (i := 4) (j := 5) rfl rfl (by decide) rfl rfl (pa_cons (pk k_law_number hr (pa_cons (pv 2) pa_nil)) (pa_cons (pk k_law_number hr (pa_cons (pv 2) pa_nil)) pa_nil)) (by rfl))
      (pss_cons (ps_set (i := 6) sc_law.nd rfl (Or.inl rfl) (pe_lst (pa_cons (pe_un un_neg (pe_op op_shlW pe_int pe_int)) (pa_cons (pe_op op_sub (pe_op op_shlW pe_int pe_int) pe_int) pa_nil))))
      (pss_cons (ps_set (i := 7) sc_law.nd rfl (Or.inl rfl) (pk k_law_one hr (pa_cons (pv 2) (pa_cons (pe_op op_cat (pv 6) (pe_lst (pa_cons (pe_op op_sub (pk k_law_draw hr (pa_cons (pv 2) (pa_cons pe_int pa_nil))) pe_int) (pa_cons (pkC k_Float_init hr (pa_cons pe_int (pa_cons (pk k_law_draw hr (pa_cons (pv 2) (pa_cons pe_int pa_nil))) (pa_cons pe_int pa_nil)))) pa_nil)))) pa_nil))))
      (pss_one (ps_if (PW.pt (pw_or (pt_not (pt_val (pk k_law_pair_right hr (pa_cons (pv 4) (pa_cons (pv 5) pa_nil))))) (pw_or1 (pt_not (pt_val (pk k_law_pair_right hr (pa_cons (pv 4) (pa_cons (pv 7) pa_nil)))))))) (pss_one (ps_ret pe_bl)) pss_nil)))))))))
      (pss_one (ps_ret pe_bl))), ?_⟩
    have e63 : (1 : Int) * 2 ^ (63 : Int).toNat = 9223372036854775808 := by decide
    repeat walk_at "rd"
    refine w_sl ?_
    repeat walk_at "rd"
    refine w_lst1 fun b1 H1 s1 n1 h1 => ?_
    refine w_catS (hS.same s1) h1 (by rw [List.length_map]; exact Nat.le_trans (Nat.add_le_add_right hl _) (by show 63 + 1 ≤ sizeLine; decide)) fun b2 H2 s2 n2 h2 => ?_
    refine w_noPart ?_
    refine w_part ?_
    repeat walk_at "rd"
    refine w_slL h2 fun L H3 s3 n3 h3 => ?_
    refine w_iListI h3 ?_
    have hx : ∀ x ∈ cutV (ns.map V.int ++ [V.int 0]) none (some 8), ∃ z, x = .int z ∧ bits z ≤ 1048576 := by
      intro x hx
      have := cut_mem hx
      simp only [List.mem_append, List.mem_map, List.mem_cons, List.not_mem_nil, or_false] at this
      rcases this with ⟨z, hz, rfl⟩ | rfl
      · exact ⟨z, rfl, hb z hz⟩
      · exact ⟨0, rfl, by decide⟩
    have tb3 := tb.ext ((s1.trans s2).trans s3)
    generalize cutV (ns.map V.int ++ [V.int 0]) none (some 8) = xs at h3 hx
    refine for_list (xs := xs) (fun _ σ H' => ∃ c0 c1 c2 c3 c4 c5 c6, σ = [some (.ref a), c0, c1, c2, c3, c4, c5, c6] ∧ H' L = some (.lst xs) ∧ Tabs (TLof PT) H') ⟨_, _, _, _, _, _, _, rfl, h3, tb3⟩ (fun i σ H' _ ⟨_, _, _, _, _, _, _, _, h, _⟩ => SqL.of h) ?_ ?_
    · rintro i x σ H4 hi ⟨c0, c1, c2, c3, c4, c5, c6, rfl, h4, t4⟩
      obtain ⟨z, rfl, hz⟩ := hx x (List.mem_of_getElem? hi)
      repeat walk_at "rd"
      refine ⟨z, rfl, hz, fun p H5 s5 n5 w5 => ?_⟩
      have neL : L ≠ p := ne_of_none h4 n5
      have h5 := s5 _ _ h4
      repeat walk_at "rd"
      refine ⟨by decide, by decide, ?_⟩
      refine for_range (lo := 0) (fun i σ H' => ∃ c2 c3 c4 c5 c6, σ = [some (.ref a), some (.int z), some (.ref p), c2, c3, c4, c5, c6] ∧ H' L = some (.lst xs) ∧ Tabs (TLof PT) H' ∧ Well (i * 300) H' p) ⟨_, _, _, _, _, rfl, h5, t4.ext s5, w5⟩ ?_ ?_
      · rintro k σ H6 hk ⟨c2, c3, c4, c5, c6, rfl, hL6, t6, w6⟩
        have hk : k < 5 := hk
        repeat walk_at "rd"
        refine u_num w6 (by omega) fun x1 m1 H7 o7 w7 k7 i7 => ?_
        repeat walk_at "rd"
        refine u_num w7 (by omega) fun x2 m2 H8 o8 w8 k8 i8 => ?_
        have k7 := k7.oth o8 w7
        have t8 := tabs_oth (tabs_oth t6 o7 w6) o8 w7
        have hL8 := o8 _ _ neL (o7 _ _ neL hL6)
        repeat walk_at "rd"
        refine w_I (cshl (i := 1) (j := 63) (by decide) (by decide) (by decide)) ?_
        rw [e63]
        repeat walk_at "rd"
        refine w_I (cshl (i := 1) (j := 63) (by decide) (by decide) (by decide)) ?_
        rw [e63]
        repeat walk_at "rd"
        refine w_lst2 fun en H9 s9 n9 h9 => ?_
        have w9 := w8.same s9
        have ne9 := w8.ne n9
        repeat walk_at "rd"
        refine u_draw w9 (by omega) (by decide) (by decide) fun d1 H10 o10 w10 d0 d1' => ?_
        have h10 := o10 _ _ ne9 h9
        repeat walk_at "rd"
        refine u_draw w10 (by omega) (by decide) (by decide) fun d2 H11 o11 w11 e0 e1' => ?_
        have h11 := o11 _ _ ne9 h10
        repeat walk_at "rd"
        have ag := argF (s := 1) (t := d2) (p := 0) (.inl rfl) e0 (by omega) (by decide) (by decide)
        refine u_Float ag fun fl H12 s12 n12 h12 => ?_
        repeat walk_at "rd"
        refine w_lst2 fun l2 H13 s13 n13 h13 => ?_
        refine w_cat ((s12.trans s13) _ _ h11) h13 (by show 4 ≤ sizeLine; decide) fun l3 H14 s14 n14 h14 => ?_
        have sA := (s12.trans s13).trans s14
        have w14 := w11.same sA
        repeat walk_at "rd"
        refine u_one w14 (by omega) h14 ((w11.same (s12.trans s13)).ne n14) (by show 0 < 4; decide) (by show 4 ≤ 1000; decide) fun v H15 hv o15 w15 => ?_
        have k15 : ∀ {y : L2.V} {m : Nm}, NmAt CF H8 y m → NmAt CF H15 y m := fun h => ((((h.same s9).oth o10 w9).oth o11 w10).same sA).oth o15 w14
        have t15 : Tabs (TLof PT) H15 := tabs_oth ((tabs_oth (tabs_oth (t8.ext s9) o10 w9) o11 w10).ext sA) o15 w14
        have hL15 : H15 L = some (.lst xs) := o15 _ _ neL (sA _ _ (o11 _ _ neL (o10 _ _ neL (s9 _ _ hL8))))
        obtain ⟨m3, k3, i3⟩ : ∃ m3, NmAt CF H15 v m3 ∧ NmI m3 := by
          simp only [List.cons_append, List.nil_append, List.mem_cons, List.not_mem_nil, or_false] at hv
          rcases hv with rfl | rfl | rfl | rfl
          · exact ⟨.int _, ⟨rfl, by decide⟩, by show In64 _; unfold In64; decide⟩
          · exact ⟨.int _, ⟨rfl, by decide⟩, by show In64 _; unfold In64; decide⟩
          · have hi : In64 (d1 - 70) := by unfold In64; omega
            exact ⟨.int _, ⟨rfl, in64_bits hi⟩, hi⟩
          · have hf : NmAt CF H14 (.ref fl) (.fl (.fin 1 (red d2 0).1 (red d2 0).2)) := ⟨fl, rfl, h12.same (s13.trans s14), ag.ok⟩
            exact ⟨_, hf.oth o15 w14, trivial⟩
        have k7 := k15 k7
        have k8 := k15 k8
        repeat walk_at "rd"
        refine u_pair k7 k8 i7 i8 t15 fun H16 e16 => ?_
        repeat walk_at "rd"
        refine iF ?_
        repeat walk_at "rd"
        refine u_pair (k7.ext e16.e) (k3.ext e16.e) i7 i3 e16.t fun H17 e17 => ?_
        repeat walk_at "rd"
        refine iF ?_
        repeat walk_at "rd"
        exact ⟨_, _, _, _, _, rfl, lst_ext hL15 (e16.e.trans e17.e), e17.t, (w15.ext (e16.e.trans e17.e)).mono (by omega)⟩
      · rintro σ H6 ⟨c2, c3, c4, c5, c6, rfl, hL6, t6, w6⟩
        exact ⟨_, _, _, _, _, _, _, rfl, hL6, t6⟩
    · rintro σ' H4 ⟨c0, c1, c2, c3, c4, c5, c6, rfl, h4, t4⟩
      repeat walk_at "rd"
      exact q H4
end
end Nu

set_option Elab.async false
set_option linter.all false
set_option maxRecDepth 100000
set_option autoImplicit false
set_option maxHeartbeats 4000000
namespace Nu
open PySem PySem.Spec PyProof.Rows L2 Rd
local macro_rules | `(tactic| walk_at "rd") => `(tactic| first
  | with_reducible refine w_nx ?_
  | with_reducible refine w_seq ?_
  | with_reducible refine w_drop ?_
  | with_reducible refine w_nil ?_
  | with_reducible refine w_cons ?_
  | ((with_reducible refine' w_var ?rdh ?_); (case rdh => exact rfl)))
theorem exm_own {K : PySem.W.Frag} {C : Addr} (h1 : PySem.W.subIn K (.ref C) (.type "BaseException") = some true) (h2 : PySem.W.isClsIn K C = true) (h3 : PySem.W.typeIn K (.ref C) = some (.type "type")) (h4 : PySem.W.subIn K (.ref C) (.ref C) = some true) : PySem.W.exmOne K (.ref C) (.ref C) = some true := by
  have e2 : (PySem.W.clsIn K C).isSome = true := h2
  unfold PySem.W.exmOne PySem.W.kitCls
  simp [h1, h3, h4, e2]
theorem w_ai {K : PySem.W.Frag} {ta : TA} {σ : L2.St} {H : Hp} {Q : VK} (h : ta σ H fun vs H1 => ∃ (a C : Addr) (ws : List V), vs = .ref a :: ws ∧ ws.length ≤ 1000 ∧ AexC K C ∧ H1 a = some (exo a C none) ∧ Q .non H1) : tAI K ta σ H Q := h
theorem w_ast {K : PySem.W.Frag} {f : Str} {to te : TE} {D : Ends} {σ : L2.St} {H : Hp} (h : te σ H fun y H1 => to σ H1 fun x H2 => ∃ a C : Addr, x = .ref a ∧ AexC K C ∧ PySem.W.findIn K (.ref C) f = some none ∧
  ((H2 a = some (exo a C none) ∧ ∀ dx, H2 dx = none → dx ≠ a → D.nx σ (upd (upd H2 a (exo a C (some dx))) dx (exd dx [(f, y)]))) ∨
    ∃ (dx : Addr) (fs : List (Str × V)), H2 a = some (exo a C (some dx)) ∧ H2 dx = some (exd dx fs) ∧ fs.length ≤ 900 ∧ D.nx σ (upd H2 dx (exd dx ((f, y) :: fs))))) : tAst K f to te D σ H := h
theorem sc_Thrown_init : FnScope ["self", "value", "level"] ["self", "value", "level"] (defScope s_Thrown_init) := ⟨rfl, rfl, rfl, by decide +kernel, rfl, by decide +kernel, by decide +kernel⟩
theorem thr_kn {P : Program} {w : World} {K : PySem.W.Frag} {mg : Str → Option Value} {base : Heap} {CF CE CC : Addr} (T : AllP K mg CF CE CC) {f : Addr} {fd : FuncData}
    (F : FunD K "__init__" "Thrown.__init__" (defArgs s_Thrown_init) (defBody s_Thrown_init) (defScope s_Thrown_init) [.int 1] [] f fd) (a : PySem.W.findIn K (.ref CE) "__init__" = some (some (.ref f))) (t : PySem.W.typeIn K (.ref f) = some (.type "function")) : KnTh P w K mg base CE := by
  obtain ⟨ds, hv, hb⟩ := F.binds1 (ps := ["self", "value", "level"]) 2 0 (by simp) (by decide)
    (fun TT kV doc pm an cdv ct us its h1 h2 => match us, its, h1, h2 with
      | [a, b], [c], _, _ => ⟨_, rfl, rfl⟩)
  refine ⟨f, fd, ds, T.g_Thrown, T.a_Thrown, a, t, hv, hb, ?_⟩
  refine F.ok sc_Thrown_init (fun vs H Q E h => ?_) (fun cdv A outer s H vs Q E hr h => ?_)
  · obtain ⟨x, v, rfl, _⟩ := h
    rfl
  · obtain ⟨x, v, rfl, hx, q⟩ := h
    refine ⟨_, PSs.nox (pss_cons (ps_expr (pe_ainit rfl T.b_AE T.v_AE (pa_cons (pv 0) (pa_cons (pv 1) pa_nil)))) (pss_cons (ps_ast (pv 0) (pv 1)) (pss_one (ps_ast (pv 0) (pv 2))))), ?_⟩
    repeat walk_at "rd"
    refine w_ai ?_
    repeat walk_at "rd"
    refine ⟨x, CE, [v], rfl, by show 1 ≤ 1000; decide, T.a_Thrown, hx, ?_⟩
    repeat walk_at "rd"
    refine w_ast ?_
    repeat walk_at "rd"
    refine ⟨x, CE, rfl, T.a_Thrown, T.xn_value, .inl ⟨hx, fun d hd hda => ?_⟩⟩
    repeat walk_at "rd"
    refine w_ast ?_
    repeat walk_at "rd"
    refine ⟨x, CE, rfl, T.a_Thrown, T.xn_level, .inr ⟨d, _, by rw [upd_ne (Ne.symm hda), upd_same], upd_same, by show 1 ≤ 900; decide, ?_⟩⟩
    exact q d hd hda
theorem ok_all {P : Program} {w : World} {K : PySem.W.Frag} {mg : Str → Option Value} {base : Heap} {CF CE CC PT : Addr} (T : AllP K mg CF CE CC) (TB : LamX.TabB base mg CC PT) (kT : KnTh P w K mg base CE) {f : Addr} {fd : FuncData} (F : Fun K "law" "law" s_law f fd) : FnOk P w K mg base CX0 20 f fd ["script"] (spLaw K PT) := by
  have A := T.toAll
  have k1 := ok_is_plain (P := P) (w := w) (base := base) A
  have k2 := ok_reduced (P := P) (w := w) (base := base) A
  have k3 := ok_fits (P := P) (w := w) (base := base) A
  have k5 := ok_init (P := P) (w := w) (base := base) A k1 k2 k3
  have k8 := ok_is_finite (P := P) (w := w) (base := base) A
  have k9 := ok_ratio (P := P) (w := w) (base := base) A
  have k18 := ok_well (P := P) (w := w) (base := base) T.toAllL
  have k19 := ok_draw (P := P) (w := w) (base := base) T.toAllL
  have k20 := ok_one (P := P) (w := w) (base := base) T.toAllL k19
  have k21 := ok_great (P := P) (w := w) (base := base) T.toAllM k19
  have k22 := ok_finite (P := P) (w := w) (base := base) T.toAllM k19 k20 k21
  have k23 := ok_float (P := P) (w := w) (base := base) T.toAllM k19 k20 k22 k5
  have e1 := ok_eq (P := P) (w := w) (base := base) T
  have i1 := ok_whole_of (P := P) (w := w) (base := base) T k8 k9
  have i2 := ok_lwhole (P := P) (w := w) (base := base) T
  have j1 := ok_wrapped (P := P) (w := w) (base := base) T
  have j2 := ok_whole_or (P := P) (w := w) (base := base) T kT i1
  have j3 := ok_by_bits (P := P) (w := w) (base := base) T j1
  have j4 := ok_arith (P := P) (w := w) (base := base) T j2 j3
  have j5 := ok_bit_not (P := P) (w := w) (base := base) T j2
  have j6 := ok_negated (P := P) (w := w) (base := base) T j1 k5
  have l1 := ok_bits (P := P) (w := w) (base := base) T
  have l2 := ok_number_of (P := P) (w := w) (base := base) T
  have l3 := ok_due (P := P) (w := w) (base := base) T l1 l2
  have m1 := ok_pair (P := P) (w := w) (base := base) (PT := PT) T TB i2 i1 l3 j4 j5 l1 l2 j6 k5 e1
  have n1 := ok_int (P := P) (w := w) (base := base) T k19 k20 k21
  have n2 := ok_number (P := P) (w := w) (base := base) T k19 k20 n1 k23 k5
  exact (ok_law T k18 k19 k20 n2 m1 k5 F).mono (by decide)
theorem fin_mk {l : PySem.W.OpenLaw} {w : World} {K : PySem.W.Frag} {h : Heap} {mg : Str → Option Value} {fa : Addr} (X : K.In h) (G : h.Ns mainGlobals mg) (hfa : mg "law" = some (.ref fa))
    {t_LEAST : Tok}
    {t_MOST : Tok}
    {t_ROOM : Tok}
    {t_LOWEST : Tok}
    {t_TOO_GREAT : Tok}
    {CF : Addr}
    {f1 : Addr} {od1 an1 : Option Addr} {sl1 : Array (Option Value)} {oc1 dc1 pm1 cd1 ct1 kV1 : Value}
    {f2 : Addr} {od2 an2 : Option Addr} {sl2 : Array (Option Value)} {oc2 dc2 pm2 cd2 ct2 kV2 : Value}
    {f3 : Addr} {od3 an3 : Option Addr} {sl3 : Array (Option Value)} {oc3 dc3 pm3 cd3 ct3 kV3 : Value}
    {f4 : Addr} {od4 an4 : Option Addr} {sl4 : Array (Option Value)} {oc4 dc4 pm4 cd4 ct4 kV4 : Value}
    {f5 : Addr} {od5 an5 : Option Addr} {sl5 : Array (Option Value)} {oc5 dc5 pm5 cd5 ct5 kV5 : Value}
    {f6 : Addr} {od6 an6 : Option Addr} {sl6 : Array (Option Value)} {oc6 dc6 pm6 cd6 ct6 kV6 : Value}
    {f7 : Addr} {od7 an7 : Option Addr} {sl7 : Array (Option Value)} {oc7 dc7 pm7 cd7 ct7 kV7 : Value}
    {f8 : Addr} {od8 an8 : Option Addr} {sl8 : Array (Option Value)} {oc8 dc8 pm8 cd8 ct8 kV8 : Value}
    {f9 : Addr} {od9 an9 : Option Addr} {sl9 : Array (Option Value)} {oc9 dc9 pm9 cd9 ct9 kV9 : Value}
    {f10 : Addr} {od10 an10 : Option Addr} {sl10 : Array (Option Value)} {oc10 dc10 pm10 cd10 ct10 kV10 : Value}
    {f11 : Addr} {od11 an11 : Option Addr} {sl11 : Array (Option Value)} {oc11 dc11 pm11 cd11 ct11 kV11 : Value}
    {f12 : Addr} {od12 an12 : Option Addr} {sl12 : Array (Option Value)} {oc12 dc12 pm12 cd12 ct12 kV12 : Value}
    {f13 : Addr} {od13 an13 : Option Addr} {sl13 : Array (Option Value)} {oc13 dc13 pm13 cd13 ct13 kV13 : Value}
    {f14 : Addr} {od14 an14 : Option Addr} {sl14 : Array (Option Value)} {oc14 dc14 pm14 cd14 ct14 kV14 : Value}
    {f15 : Addr} {od15 an15 : Option Addr} {sl15 : Array (Option Value)} {oc15 dc15 pm15 cd15 ct15 kV15 : Value}
    {f16 : Addr} {od16 an16 : Option Addr} {sl16 : Array (Option Value)} {oc16 dc16 pm16 cd16 ct16 kV16 : Value}
    {f17 : Addr} {od17 an17 : Option Addr} {sl17 : Array (Option Value)} {oc17 dc17 pm17 cd17 ct17 kV17 : Value}
    {f18 : Addr} {od18 an18 : Option Addr} {sl18 : Array (Option Value)} {oc18 dc18 pm18 cd18 ct18 kV18 : Value}
    {f19 : Addr} {od19 an19 : Option Addr} {sl19 : Array (Option Value)} {oc19 dc19 pm19 cd19 ct19 kV19 : Value}
    {f20 : Addr} {od20 an20 : Option Addr} {sl20 : Array (Option Value)} {oc20 dc20 pm20 cd20 ct20 kV20 : Value}
    {f21 : Addr} {od21 an21 : Option Addr} {sl21 : Array (Option Value)} {oc21 dc21 pm21 cd21 ct21 kV21 : Value}
    {f22 : Addr} {od22 an22 : Option Addr} {sl22 : Array (Option Value)} {oc22 dc22 pm22 cd22 ct22 kV22 : Value}
    {f23 : Addr} {od23 an23 : Option Addr} {sl23 : Array (Option Value)} {oc23 dc23 pm23 cd23 ct23 kV23 : Value}
    {f24 : Addr} {od24 an24 : Option Addr} {sl24 : Array (Option Value)} {oc24 dc24 pm24 cd24 ct24 kV24 : Value}
    {f25 : Addr} {od25 an25 : Option Addr} {sl25 : Array (Option Value)} {oc25 dc25 pm25 cd25 ct25 kV25 : Value}
    {f26 : Addr} {od26 an26 : Option Addr} {sl26 : Array (Option Value)} {oc26 dc26 pm26 cd26 ct26 kV26 : Value}
    {f27 : Addr} {od27 an27 : Option Addr} {sl27 : Array (Option Value)} {oc27 dc27 pm27 cd27 ct27 kV27 : Value}
    {f28 : Addr} {od28 an28 : Option Addr} {sl28 : Array (Option Value)} {oc28 dc28 pm28 cd28 ct28 kV28 : Value}
    {f29 : Addr} {od29 an29 : Option Addr} {sl29 : Array (Option Value)} {oc29 dc29 pm29 cd29 ct29 kV29 : Value}
    {f30 : Addr} {od30 an30 : Option Addr} {sl30 : Array (Option Value)} {oc30 dc30 pm30 cd30 ct30 kV30 : Value}
    {f31 : Addr} {od31 an31 : Option Addr} {sl31 : Array (Option Value)} {oc31 dc31 pm31 cd31 ct31 kV31 : Value}
    {f32 : Addr} {od32 an32 : Option Addr} {sl32 : Array (Option Value)} {oc32 dc32 pm32 cd32 ct32 kV32 : Value}
    {CE : Addr} {f99 : Addr} {od99 an99 : Option Addr} {sl99 : Array (Option Value)} {oc99 dc99 pm99 cd99 ct99 kV99 : Value} {TD : Addr} {ocD : Value} {odD : Option Addr} {slD : Array (Option Value)} {tD1 : Tok} {nD : Nat}
    
    
    
    
    
    
    
    {CC PT : Addr} {eC : Value} {ddC : Option Addr} {vsC : Array Value} {slC : Array (Option Value)} {f98 : Addr} {od98 an98 : Option Addr} {sl98 : Array (Option Value)} {oc98 dc98 pm98 ct98 kV98 : Value}
    
    (b_isinstance : PySem.W.nsIn K mainGlobals "isinstance" = some none)
    (b_int : PySem.W.nsIn K mainGlobals "int" = some none)
    (b_str : PySem.W.nsIn K mainGlobals "str" = some none)
    (b_bool : PySem.W.nsIn K mainGlobals "bool" = some none)
    (b_abs : PySem.W.nsIn K mainGlobals "abs" = some none)
    (b_max : PySem.W.nsIn K mainGlobals "max" = some none)
    (b_min : PySem.W.nsIn K mainGlobals "min" = some none)
    (b_divmod : PySem.W.nsIn K mainGlobals "divmod" = some none)
    (b_len : PySem.W.nsIn K mainGlobals "len" = some none)
    (b_range : PySem.W.nsIn K mainGlobals "range" = some none)
    (b_list : PySem.W.nsIn K mainGlobals "list" = some none)
    (b_zip : PySem.W.nsIn K mainGlobals "zip" = some none)
    (c_LEAST : PySem.W.nsIn K mainGlobals "LEAST" = some (some (.int (-9223372036854775808) t_LEAST)))
    (c_MOST : PySem.W.nsIn K mainGlobals "MOST" = some (some (.int (9223372036854775807) t_MOST)))
    (c_ROOM : PySem.W.nsIn K mainGlobals "ROOM" = some (some (.int (9007199254740992) t_ROOM)))
    (c_LOWEST : PySem.W.nsIn K mainGlobals "LOWEST" = some (some (.int (-1074) t_LOWEST)))
    (c_TOO_GREAT : PySem.W.nsIn K mainGlobals "TOO_GREAT" = some (some (.int (1024) t_TOO_GREAT)))
    (g_Float : PySem.W.nsIn K mainGlobals "Float" = some (some (.ref CF)))
    (pg_Float : PySem.W.plainGet K CF Str.empty = true)
    (hd_Float : PySem.W.hasDictIn K CF = true)
    (po_Float : PySem.W.plainOver K CF = true)
    (sa_Float : PySem.W.findIn K (.ref CF) "__setattr__" = some (some (.builtin "object.__setattr__")))
    (yc_Float : PySem.W.findIn K (.ref CF) "__class__" = some (some (.builtin "object.__class__")))
    (ym_Float : PySem.W.mroIn K CF (.type "object") = some true)
    (n_sign : PySem.W.findIn K (.ref CF) "sign" = some none)
    (n_top : PySem.W.findIn K (.ref CF) "top" = some none)
    (n_power : PySem.W.findIn K (.ref CF) "power" = some none)
    (i_Fint : PySem.W.kitOne K (.ref CF) (.type "int") = some false)
    (i_Fbool : PySem.W.kitOne K (.ref CF) (.type "bool") = some false)
    (i_Fstr : PySem.W.kitOne K (.ref CF) (.type "str") = some false)
    (i_intF : PySem.W.kitOne K (.type "int") (.ref CF) = some false)
    (i_boolF : PySem.W.kitOne K (.type "bool") (.ref CF) = some false)
    (i_strF : PySem.W.kitOne K (.type "str") (.ref CF) = some false)
    (i_nonF : PySem.W.kitOne K (.type "NoneType") (.ref CF) = some false)
    (mk_Float : PySem.W.makesIn K CF = true)
    (kc_Float : PySem.W.keepIn K (.ref CF) = true)
    (y_spec : PySem.W.specialIn K (.builtin "object.__class__") "__get__" = some (some (.builtin "getset_descriptor.__get__")))
    (y_takes : PySem.W.takesIn K (.builtin "object.__class__") = some true)
    (a1 : PySem.W.findIn K (.ref CF) "__init__" = some (some (.ref f1)))
    (l1 : K.lookup f1 = some ⟨oc1, od1, .func (PySem.W.fnOf "__init__" "Float.__init__" (defArgs s_Float_init) (defBody s_Float_init) (defScope s_Float_init) .none kV1 dc1 pm1 an1 cd1 ct1), sl1⟩)
    (c1 : PySem.W.codeIn K cd1 "Float.__init__" = true)
    (k1 : PySem.W.keepIn K (.ref f1) = true)
    (i1 : PySem.W.isFn K (.ref f1) = true)
    (a2 : PySem.W.findIn K (.ref CF) "is_finite" = some (some (.ref f2)))
    (l2 : K.lookup f2 = some ⟨oc2, od2, .func (PySem.W.fnOf "is_finite" "Float.is_finite" (defArgs s_Float_is_finite) (defBody s_Float_is_finite) (defScope s_Float_is_finite) .none kV2 dc2 pm2 an2 cd2 ct2), sl2⟩)
    (c2 : PySem.W.codeIn K cd2 "Float.is_finite" = true)
    (k2 : PySem.W.keepIn K (.ref f2) = true)
    (i2 : PySem.W.isFn K (.ref f2) = true)
    (a3 : PySem.W.findIn K (.ref CF) "ratio" = some (some (.ref f3)))
    (l3 : K.lookup f3 = some ⟨oc3, od3, .func (PySem.W.fnOf "ratio" "Float.ratio" (defArgs s_Float_ratio) (defBody s_Float_ratio) (defScope s_Float_ratio) .none kV3 dc3 pm3 an3 cd3 ct3), sl3⟩)
    (c3 : PySem.W.codeIn K cd3 "Float.ratio" = true)
    (k3 : PySem.W.keepIn K (.ref f3) = true)
    (i3 : PySem.W.isFn K (.ref f3) = true)
    (a4 : PySem.W.findIn K (.ref CF) "__eq__" = some (some (.ref f4)))
    (l4 : K.lookup f4 = some ⟨oc4, od4, .func (PySem.W.fnOf "__eq__" "Float.__eq__" (defArgs s_Float_eq) (defBody s_Float_eq) (defScope s_Float_eq) .none kV4 dc4 pm4 an4 cd4 ct4), sl4⟩)
    (c4 : PySem.W.codeIn K cd4 "Float.__eq__" = true)
    (k4 : PySem.W.keepIn K (.ref f4) = true)
    (i4 : PySem.W.isFn K (.ref f4) = true)
    (a5 : PySem.W.nsIn K mainGlobals "is_plain" = some (some (.ref f5)))
    (l5 : K.lookup f5 = some ⟨oc5, od5, .func (PySem.W.fnOf "is_plain" "is_plain" (defArgs s_is_plain) (defBody s_is_plain) (defScope s_is_plain) .none kV5 dc5 pm5 an5 cd5 ct5), sl5⟩)
    (c5 : PySem.W.codeIn K cd5 "is_plain" = true)
    (k5 : PySem.W.keepIn K (.ref f5) = true)
    (a6 : PySem.W.nsIn K mainGlobals "reduced" = some (some (.ref f6)))
    (l6 : K.lookup f6 = some ⟨oc6, od6, .func (PySem.W.fnOf "reduced" "reduced" (defArgs s_reduced) (defBody s_reduced) (defScope s_reduced) .none kV6 dc6 pm6 an6 cd6 ct6), sl6⟩)
    (c6 : PySem.W.codeIn K cd6 "reduced" = true)
    (k6 : PySem.W.keepIn K (.ref f6) = true)
    (a7 : PySem.W.nsIn K mainGlobals "fits" = some (some (.ref f7)))
    (l7 : K.lookup f7 = some ⟨oc7, od7, .func (PySem.W.fnOf "fits" "fits" (defArgs s_fits) (defBody s_fits) (defScope s_fits) .none kV7 dc7 pm7 an7 cd7 ct7), sl7⟩)
    (c7 : PySem.W.codeIn K cd7 "fits" = true)
    (k7 : PySem.W.keepIn K (.ref f7) = true)
    (a8 : PySem.W.nsIn K mainGlobals "sign_of" = some (some (.ref f8)))
    (l8 : K.lookup f8 = some ⟨oc8, od8, .func (PySem.W.fnOf "sign_of" "sign_of" (defArgs s_sign_of) (defBody s_sign_of) (defScope s_sign_of) .none kV8 dc8 pm8 an8 cd8 ct8), sl8⟩)
    (c8 : PySem.W.codeIn K cd8 "sign_of" = true)
    (k8 : PySem.W.keepIn K (.ref f8) = true)
    (a9 : PySem.W.nsIn K mainGlobals "infinity" = some (some (.ref f9)))
    (l9 : K.lookup f9 = some ⟨oc9, od9, .func (PySem.W.fnOf "infinity" "infinity" (defArgs s_infinity) (defBody s_infinity) (defScope s_infinity) .none kV9 dc9 pm9 an9 cd9 ct9), sl9⟩)
    (c9 : PySem.W.codeIn K cd9 "infinity" = true)
    (k9 : PySem.W.keepIn K (.ref f9) = true)
    (a10 : PySem.W.nsIn K mainGlobals "nearest" = some (some (.ref f10)))
    (l10 : K.lookup f10 = some ⟨oc10, od10, .func (PySem.W.fnOf "nearest" "nearest" (defArgs s_nearest) (defBody s_nearest) (defScope s_nearest) .none kV10 dc10 pm10 an10 cd10 ct10), sl10⟩)
    (c10 : PySem.W.codeIn K cd10 "nearest" = true)
    (k10 : PySem.W.keepIn K (.ref f10) = true)
    (a11 : PySem.W.nsIn K mainGlobals "to_float" = some (some (.ref f11)))
    (l11 : K.lookup f11 = some ⟨oc11, od11, .func (PySem.W.fnOf "to_float" "to_float" (defArgs s_to_float) (defBody s_to_float) (defScope s_to_float) .none kV11 dc11 pm11 an11 cd11 ct11), sl11⟩)
    (c11 : PySem.W.codeIn K cd11 "to_float" = true)
    (k11 : PySem.W.keepIn K (.ref f11) = true)
    (a12 : PySem.W.nsIn K mainGlobals "whole_of" = some (some (.ref f12)))
    (l12 : K.lookup f12 = some ⟨oc12, od12, .func (PySem.W.fnOf "whole_of" "whole_of" (defArgs s_whole_of) (defBody s_whole_of) (defScope s_whole_of) .none kV12 dc12 pm12 an12 cd12 ct12), sl12⟩)
    (c12 : PySem.W.codeIn K cd12 "whole_of" = true)
    (k12 : PySem.W.keepIn K (.ref f12) = true)
    (a13 : PySem.W.nsIn K mainGlobals "whole_or_thrown" = some (some (.ref f13)))
    (l13 : K.lookup f13 = some ⟨oc13, od13, .func (PySem.W.fnOf "whole_or_thrown" "whole_or_thrown" (defArgs s_whole_or_thrown) (defBody s_whole_or_thrown) (defScope s_whole_or_thrown) .none kV13 dc13 pm13 an13 cd13 ct13), sl13⟩)
    (c13 : PySem.W.codeIn K cd13 "whole_or_thrown" = true)
    (k13 : PySem.W.keepIn K (.ref f13) = true)
    (a14 : PySem.W.nsIn K mainGlobals "by_bits" = some (some (.ref f14)))
    (l14 : K.lookup f14 = some ⟨oc14, od14, .func (PySem.W.fnOf "by_bits" "by_bits" (defArgs s_by_bits) (defBody s_by_bits) (defScope s_by_bits) .none kV14 dc14 pm14 an14 cd14 ct14), sl14⟩)
    (c14 : PySem.W.codeIn K cd14 "by_bits" = true)
    (k14 : PySem.W.keepIn K (.ref f14) = true)
    (a15 : PySem.W.nsIn K mainGlobals "arith" = some (some (.ref f15)))
    (l15 : K.lookup f15 = some ⟨oc15, od15, .func (PySem.W.fnOf "arith" "arith" (defArgs s_arith) (defBody s_arith) (defScope s_arith) .none kV15 dc15 pm15 an15 cd15 ct15), sl15⟩)
    (c15 : PySem.W.codeIn K cd15 "arith" = true)
    (k15 : PySem.W.keepIn K (.ref f15) = true)
    (a16 : PySem.W.nsIn K mainGlobals "wrapped" = some (some (.ref f16)))
    (l16 : K.lookup f16 = some ⟨oc16, od16, .func (PySem.W.fnOf "wrapped" "wrapped" (defArgs s_wrapped) (defBody s_wrapped) (defScope s_wrapped) .none kV16 dc16 pm16 an16 cd16 ct16), sl16⟩)
    (c16 : PySem.W.codeIn K cd16 "wrapped" = true)
    (k16 : PySem.W.keepIn K (.ref f16) = true)
    (a17 : PySem.W.nsIn K mainGlobals "bit_not" = some (some (.ref f17)))
    (l17 : K.lookup f17 = some ⟨oc17, od17, .func (PySem.W.fnOf "bit_not" "bit_not" (defArgs s_bit_not) (defBody s_bit_not) (defScope s_bit_not) .none kV17 dc17 pm17 an17 cd17 ct17), sl17⟩)
    (c17 : PySem.W.codeIn K cd17 "bit_not" = true)
    (k17 : PySem.W.keepIn K (.ref f17) = true)
    (a18 : PySem.W.nsIn K mainGlobals "negated" = some (some (.ref f18)))
    (l18 : K.lookup f18 = some ⟨oc18, od18, .func (PySem.W.fnOf "negated" "negated" (defArgs s_negated) (defBody s_negated) (defScope s_negated) .none kV18 dc18 pm18 an18 cd18 ct18), sl18⟩)
    (c18 : PySem.W.codeIn K cd18 "negated" = true)
    (k18 : PySem.W.keepIn K (.ref f18) = true)
    (a19 : PySem.W.nsIn K mainGlobals "_law_well" = some (some (.ref f19)))
    (l19 : K.lookup f19 = some ⟨oc19, od19, .func (PySem.W.fnOf "_law_well" "_law_well" (defArgs s_law_well) (defBody s_law_well) (defScope s_law_well) .none kV19 dc19 pm19 an19 cd19 ct19), sl19⟩)
    (c19 : PySem.W.codeIn K cd19 "_law_well" = true)
    (k19 : PySem.W.keepIn K (.ref f19) = true)
    (a20 : PySem.W.nsIn K mainGlobals "_law_draw" = some (some (.ref f20)))
    (l20 : K.lookup f20 = some ⟨oc20, od20, .func (PySem.W.fnOf "_law_draw" "_law_draw" (defArgs s_law_draw) (defBody s_law_draw) (defScope s_law_draw) .none kV20 dc20 pm20 an20 cd20 ct20), sl20⟩)
    (c20 : PySem.W.codeIn K cd20 "_law_draw" = true)
    (k20 : PySem.W.keepIn K (.ref f20) = true)
    (a21 : PySem.W.nsIn K mainGlobals "_law_one" = some (some (.ref f21)))
    (l21 : K.lookup f21 = some ⟨oc21, od21, .func (PySem.W.fnOf "_law_one" "_law_one" (defArgs s_law_one) (defBody s_law_one) (defScope s_law_one) .none kV21 dc21 pm21 an21 cd21 ct21), sl21⟩)
    (c21 : PySem.W.codeIn K cd21 "_law_one" = true)
    (k21 : PySem.W.keepIn K (.ref f21) = true)
    (a22 : PySem.W.nsIn K mainGlobals "_law_great" = some (some (.ref f22)))
    (l22 : K.lookup f22 = some ⟨oc22, od22, .func (PySem.W.fnOf "_law_great" "_law_great" (defArgs s_law_great) (defBody s_law_great) (defScope s_law_great) .none kV22 dc22 pm22 an22 cd22 ct22), sl22⟩)
    (c22 : PySem.W.codeIn K cd22 "_law_great" = true)
    (k22 : PySem.W.keepIn K (.ref f22) = true)
    (a23 : PySem.W.nsIn K mainGlobals "_law_finite" = some (some (.ref f23)))
    (l23 : K.lookup f23 = some ⟨oc23, od23, .func (PySem.W.fnOf "_law_finite" "_law_finite" (defArgs s_law_finite) (defBody s_law_finite) (defScope s_law_finite) .none kV23 dc23 pm23 an23 cd23 ct23), sl23⟩)
    (c23 : PySem.W.codeIn K cd23 "_law_finite" = true)
    (k23 : PySem.W.keepIn K (.ref f23) = true)
    (a24 : PySem.W.nsIn K mainGlobals "_law_float" = some (some (.ref f24)))
    (l24 : K.lookup f24 = some ⟨oc24, od24, .func (PySem.W.fnOf "_law_float" "_law_float" (defArgs s_law_float) (defBody s_law_float) (defScope s_law_float) .none kV24 dc24 pm24 an24 cd24 ct24), sl24⟩)
    (c24 : PySem.W.codeIn K cd24 "_law_float" = true)
    (k24 : PySem.W.keepIn K (.ref f24) = true)
    (a25 : PySem.W.nsIn K mainGlobals "_law_int" = some (some (.ref f25)))
    (l25 : K.lookup f25 = some ⟨oc25, od25, .func (PySem.W.fnOf "_law_int" "_law_int" (defArgs s_law_int) (defBody s_law_int) (defScope s_law_int) .none kV25 dc25 pm25 an25 cd25 ct25), sl25⟩)
    (c25 : PySem.W.codeIn K cd25 "_law_int" = true)
    (k25 : PySem.W.keepIn K (.ref f25) = true)
    (a26 : PySem.W.nsIn K mainGlobals "_law_number" = some (some (.ref f26)))
    (l26 : K.lookup f26 = some ⟨oc26, od26, .func (PySem.W.fnOf "_law_number" "_law_number" (defArgs s_law_number) (defBody s_law_number) (defScope s_law_number) .none kV26 dc26 pm26 an26 cd26 ct26), sl26⟩)
    (c26 : PySem.W.codeIn K cd26 "_law_number" = true)
    (k26 : PySem.W.keepIn K (.ref f26) = true)
    (a27 : PySem.W.nsIn K mainGlobals "_law_whole" = some (some (.ref f27)))
    (l27 : K.lookup f27 = some ⟨oc27, od27, .func (PySem.W.fnOf "_law_whole" "_law_whole" (defArgs s_law_whole) (defBody s_law_whole) (defScope s_law_whole) .none kV27 dc27 pm27 an27 cd27 ct27), sl27⟩)
    (c27 : PySem.W.codeIn K cd27 "_law_whole" = true)
    (k27 : PySem.W.keepIn K (.ref f27) = true)
    (a28 : PySem.W.nsIn K mainGlobals "_law_bits" = some (some (.ref f28)))
    (l28 : K.lookup f28 = some ⟨oc28, od28, .func (PySem.W.fnOf "_law_bits" "_law_bits" (defArgs s_law_bits) (defBody s_law_bits) (defScope s_law_bits) .none kV28 dc28 pm28 an28 cd28 ct28), sl28⟩)
    (c28 : PySem.W.codeIn K cd28 "_law_bits" = true)
    (k28 : PySem.W.keepIn K (.ref f28) = true)
    (a29 : PySem.W.nsIn K mainGlobals "_law_number_of" = some (some (.ref f29)))
    (l29 : K.lookup f29 = some ⟨oc29, od29, .func (PySem.W.fnOf "_law_number_of" "_law_number_of" (defArgs s_law_number_of) (defBody s_law_number_of) (defScope s_law_number_of) .none kV29 dc29 pm29 an29 cd29 ct29), sl29⟩)
    (c29 : PySem.W.codeIn K cd29 "_law_number_of" = true)
    (k29 : PySem.W.keepIn K (.ref f29) = true)
    (a30 : PySem.W.nsIn K mainGlobals "_law_due" = some (some (.ref f30)))
    (l30 : K.lookup f30 = some ⟨oc30, od30, .func (PySem.W.fnOf "_law_due" "_law_due" (defArgs s_law_due) (defBody s_law_due) (defScope s_law_due) .none kV30 dc30 pm30 an30 cd30 ct30), sl30⟩)
    (c30 : PySem.W.codeIn K cd30 "_law_due" = true)
    (k30 : PySem.W.keepIn K (.ref f30) = true)
    (a31 : PySem.W.nsIn K mainGlobals "_law_said" = some (some (.ref f31)))
    (l31 : K.lookup f31 = some ⟨oc31, od31, .func (PySem.W.fnOf "_law_said" "_law_said" (defArgs s_law_said) (defBody s_law_said) (defScope s_law_said) .none kV31 dc31 pm31 an31 cd31 ct31), sl31⟩)
    (c31 : PySem.W.codeIn K cd31 "_law_said" = true)
    (k31 : PySem.W.keepIn K (.ref f31) = true)
    (a32 : PySem.W.nsIn K mainGlobals "law" = some (some (.ref f32)))
    (l32 : K.lookup f32 = some ⟨oc32, od32, .func (PySem.W.fnOf "law" "law" (defArgs s_law) (defBody s_law) (defScope s_law) .none kV32 dc32 pm32 an32 cd32 ct32), sl32⟩)
    (c32 : PySem.W.codeIn K cd32 "law" = true)
    (k32 : PySem.W.keepIn K (.ref f32) = true)
    (g_Thrown : PySem.W.nsIn K mainGlobals "Thrown" = some (some (.ref CE)))
    (th_made : PySem.W.excInitIn K CE aeMro "ArithmeticError.__new__" = true)
    (th_over : PySem.W.excOver K CE aeMro = true)
    (th_hd : PySem.W.hasDictIn K CE = true)
    (th_sa : PySem.W.findIn K (.ref CE) "__setattr__" = some (some (.builtin "object.__setattr__")))
    (th_ex : PySem.W.subIn K (.ref CE) (.type "BaseException") = some true)
    (th_ty : PySem.W.typeIn K (.ref CE) = some (.type "type"))
    (th_kp : PySem.W.keepIn K (.ref CE) = true)
    (th_ga : PySem.W.findIn K (.ref CE) "__getattribute__" = some (some (.builtin "BaseException.__getattribute__")))
    (th_gg : PySem.W.findIn K (.ref CE) "__getattr__" = some none)
    (xn_value : PySem.W.findIn K (.ref CE) "value" = some none)
    (xn_level : PySem.W.findIn K (.ref CE) "level" = some none)
    (th_ic : PySem.W.isClsIn K CE = true)
    (th_sc : PySem.W.subIn K (.ref CE) (.ref CE) = some true)
    (b_AE : PySem.W.nsIn K mainGlobals "ArithmeticError" = some none)
    (v_AE : PySem.W.findCls K (.type "ArithmeticError") (.type "type") "__init__" = some (.val (.builtin "ArithmeticError.__init__")))
    (a99 : PySem.W.findIn K (.ref CE) "__init__" = some (some (.ref f99)))
    (l99 : K.lookup f99 = some ⟨oc99, od99, .func (PySem.W.fnOf "__init__" "Thrown.__init__" (defArgs s_Thrown_init) (defBody s_Thrown_init) (defScope s_Thrown_init) (.ref TD) kV99 dc99 pm99 an99 cd99 ct99), sl99⟩)
    (c99 : PySem.W.codeIn K cd99 "Thrown.__init__" = true)
    (k99 : PySem.W.keepIn K (.ref f99) = true)
    (i99 : PySem.W.typeIn K (.ref f99) = some (.type "function"))
    (lD : K.lookup TD = some ⟨ocD, odD, .seq [Value.int 1 tD1].toArray nD, slD⟩)
    (a98 : PySem.W.nsIn K mainGlobals "_law_pair_right" = some (some (.ref f98)))
    (l98 : K.lookup f98 = some ⟨oc98, od98, .func (PySem.W.fnOf "_law_pair_right" "_law_pair_right" (defArgs s_law_pair_right) (defBody s_law_pair_right) (defScope s_law_pair_right) .none kV98 dc98 pm98 an98 (.ref CC) ct98), sl98⟩)
    (c98 : PySem.W.codeIn K (.ref CC) "_law_pair_right" = true)
    (k98 : PySem.W.keepIn K (.ref f98) = true)
    (lC98 : K.lookup CC = some ⟨eC, ddC, .fields vsC, slC⟩)
    (v98 : vsC[11]? = some (.ref PT))
    (lk98 : K.lookup PT = none)
    (ne_Float : PySem.W.findIn K (.ref CF) "__ne__" = some (some (.builtin "object.__ne__")))
    (tab : ∀ c P, PySem.W.tabIn K "_law_pair_right" = some (c, P) → PySem.W.CodeHd h c P ∧ h.get? P = some (PySem.W.tabObj #[])) : LamX.LawAtS l w K CX0 20 63 "script" mg fa h := by
  have e := hfa.symm.trans (PySem.W.mg_of X G a32)
  cases e
  have T : AllP K mg CF CE CC := {
    b_isinstance := PySem.W.mg_none_of X G b_isinstance
    b_int := PySem.W.mg_none_of X G b_int
    b_str := PySem.W.mg_none_of X G b_str
    b_bool := PySem.W.mg_none_of X G b_bool
    b_abs := PySem.W.mg_none_of X G b_abs
    b_max := PySem.W.mg_none_of X G b_max
    b_min := PySem.W.mg_none_of X G b_min
    b_divmod := PySem.W.mg_none_of X G b_divmod
    b_len := PySem.W.mg_none_of X G b_len
    b_range := PySem.W.mg_none_of X G b_range
    b_list := PySem.W.mg_none_of X G b_list
    b_zip := PySem.W.mg_none_of X G b_zip
    c_LEAST := ⟨_, PySem.W.mg_of X G c_LEAST⟩
    c_MOST := ⟨_, PySem.W.mg_of X G c_MOST⟩
    c_ROOM := ⟨_, PySem.W.mg_of X G c_ROOM⟩
    c_LOWEST := ⟨_, PySem.W.mg_of X G c_LOWEST⟩
    c_TOO_GREAT := ⟨_, PySem.W.mg_of X G c_TOO_GREAT⟩
    g_Float := PySem.W.mg_of X G g_Float
    l_Float := ⟨pg_Float, hd_Float, po_Float, sa_Float⟩
    y_Float := ⟨yc_Float, y_spec, y_takes, ym_Float⟩
    n_sign := n_sign
    n_top := n_top
    n_power := n_power
    i_Fint := i_Fint
    i_Fbool := i_Fbool
    i_Fstr := i_Fstr
    i_intF := i_intF
    i_boolF := i_boolF
    i_strF := i_strF
    i_nonF := i_nonF
    x_init := ⟨_, _, PySem.W.mg_of X G g_Float, ⟨mk_Float, a1, i1, kc_Float⟩, fun_mk (st := s_Float_init) l1 c1 k1, (fun_mk (st := s_Float_init) l1 c1 k1).binds (fun _ _ _ _ _ _ us hl => match us, hl with | [_, _, _, _], _ => rfl)⟩
    x_is_finite := ⟨_, _, ⟨a2, i2, k2⟩, fun_mk (st := s_Float_is_finite) l2 c2 k2, (fun_mk (st := s_Float_is_finite) l2 c2 k2).binds (fun _ _ _ _ _ _ us hl => match us, hl with | [_], _ => rfl)⟩
    x_ratio := ⟨_, _, ⟨a3, i3, k3⟩, fun_mk (st := s_Float_ratio) l3 c3 k3, (fun_mk (st := s_Float_ratio) l3 c3 k3).binds (fun _ _ _ _ _ _ us hl => match us, hl with | [_], _ => rfl)⟩
    x_eq := ⟨_, _, ⟨a4, i4, k4⟩, fun_mk (st := s_Float_eq) l4 c4 k4, (fun_mk (st := s_Float_eq) l4 c4 k4).binds (fun _ _ _ _ _ _ us hl => match us, hl with | [_, _], _ => rfl)⟩
    x_is_plain := ⟨_, _, PySem.W.mg_of X G a5, fun_mk (st := s_is_plain) l5 c5 k5, (fun_mk (st := s_is_plain) l5 c5 k5).binds (fun _ _ _ _ _ _ us hl => match us, hl with | [_], _ => rfl)⟩
    x_reduced := ⟨_, _, PySem.W.mg_of X G a6, fun_mk (st := s_reduced) l6 c6 k6, (fun_mk (st := s_reduced) l6 c6 k6).binds (fun _ _ _ _ _ _ us hl => match us, hl with | [_, _], _ => rfl)⟩
    x_fits := ⟨_, _, PySem.W.mg_of X G a7, fun_mk (st := s_fits) l7 c7 k7, (fun_mk (st := s_fits) l7 c7 k7).binds (fun _ _ _ _ _ _ us hl => match us, hl with | [_, _], _ => rfl)⟩
    x_sign_of := ⟨_, _, PySem.W.mg_of X G a8, fun_mk (st := s_sign_of) l8 c8 k8, (fun_mk (st := s_sign_of) l8 c8 k8).binds (fun _ _ _ _ _ _ us hl => match us, hl with | [_], _ => rfl)⟩
    x_infinity := ⟨_, _, PySem.W.mg_of X G a9, fun_mk (st := s_infinity) l9 c9 k9, (fun_mk (st := s_infinity) l9 c9 k9).binds (fun _ _ _ _ _ _ us hl => match us, hl with | [_], _ => rfl)⟩
    x_nearest := ⟨_, _, PySem.W.mg_of X G a10, fun_mk (st := s_nearest) l10 c10 k10, (fun_mk (st := s_nearest) l10 c10 k10).binds (fun _ _ _ _ _ _ us hl => match us, hl with | [_, _, _], _ => rfl)⟩
    x_to_float := ⟨_, _, PySem.W.mg_of X G a11, fun_mk (st := s_to_float) l11 c11 k11, (fun_mk (st := s_to_float) l11 c11 k11).binds (fun _ _ _ _ _ _ us hl => match us, hl with | [_], _ => rfl)⟩
    x_whole_of := ⟨_, _, PySem.W.mg_of X G a12, fun_mk (st := s_whole_of) l12 c12 k12, (fun_mk (st := s_whole_of) l12 c12 k12).binds (fun _ _ _ _ _ _ us hl => match us, hl with | [_], _ => rfl)⟩
    x_whole_or := ⟨_, _, PySem.W.mg_of X G a13, fun_mk (st := s_whole_or_thrown) l13 c13 k13, (fun_mk (st := s_whole_or_thrown) l13 c13 k13).binds (fun _ _ _ _ _ _ us hl => match us, hl with | [_], _ => rfl)⟩
    x_by_bits := ⟨_, _, PySem.W.mg_of X G a14, fun_mk (st := s_by_bits) l14 c14 k14, (fun_mk (st := s_by_bits) l14 c14 k14).binds (fun _ _ _ _ _ _ us hl => match us, hl with | [_, _, _], _ => rfl)⟩
    x_arith := ⟨_, _, PySem.W.mg_of X G a15, fun_mk (st := s_arith) l15 c15 k15, (fun_mk (st := s_arith) l15 c15 k15).binds (fun _ _ _ _ _ _ us hl => match us, hl with | [_, _, _], _ => rfl)⟩
    x_wrapped := ⟨_, _, PySem.W.mg_of X G a16, fun_mk (st := s_wrapped) l16 c16 k16, (fun_mk (st := s_wrapped) l16 c16 k16).binds (fun _ _ _ _ _ _ us hl => match us, hl with | [_], _ => rfl)⟩
    x_bit_not := ⟨_, _, PySem.W.mg_of X G a17, fun_mk (st := s_bit_not) l17 c17 k17, (fun_mk (st := s_bit_not) l17 c17 k17).binds (fun _ _ _ _ _ _ us hl => match us, hl with | [_], _ => rfl)⟩
    x_negated := ⟨_, _, PySem.W.mg_of X G a18, fun_mk (st := s_negated) l18 c18 k18, (fun_mk (st := s_negated) l18 c18 k18).binds (fun _ _ _ _ _ _ us hl => match us, hl with | [_], _ => rfl)⟩
    x_well := ⟨_, _, PySem.W.mg_of X G a19, fun_mk (st := s_law_well) l19 c19 k19, (fun_mk (st := s_law_well) l19 c19 k19).binds (fun _ _ _ _ _ _ us hl => match us, hl with | [_], _ => rfl)⟩
    x_draw := ⟨_, _, PySem.W.mg_of X G a20, fun_mk (st := s_law_draw) l20 c20 k20, (fun_mk (st := s_law_draw) l20 c20 k20).binds (fun _ _ _ _ _ _ us hl => match us, hl with | [_, _], _ => rfl)⟩
    x_one := ⟨_, _, PySem.W.mg_of X G a21, fun_mk (st := s_law_one) l21 c21 k21, (fun_mk (st := s_law_one) l21 c21 k21).binds (fun _ _ _ _ _ _ us hl => match us, hl with | [_, _], _ => rfl)⟩
    x_great := ⟨_, _, PySem.W.mg_of X G a22, fun_mk (st := s_law_great) l22 c22 k22, (fun_mk (st := s_law_great) l22 c22 k22).binds (fun _ _ _ _ _ _ us hl => match us, hl with | [_, _], _ => rfl)⟩
    x_finite := ⟨_, _, PySem.W.mg_of X G a23, fun_mk (st := s_law_finite) l23 c23 k23, (fun_mk (st := s_law_finite) l23 c23 k23).binds (fun _ _ _ _ _ _ us hl => match us, hl with | [_], _ => rfl)⟩
    x_float := ⟨_, _, PySem.W.mg_of X G a24, fun_mk (st := s_law_float) l24 c24 k24, (fun_mk (st := s_law_float) l24 c24 k24).binds (fun _ _ _ _ _ _ us hl => match us, hl with | [_], _ => rfl)⟩
    x_int := ⟨_, _, PySem.W.mg_of X G a25, fun_mk (st := s_law_int) l25 c25 k25, (fun_mk (st := s_law_int) l25 c25 k25).binds (fun _ _ _ _ _ _ us hl => match us, hl with | [_], _ => rfl)⟩
    x_number := ⟨_, _, PySem.W.mg_of X G a26, fun_mk (st := s_law_number) l26 c26 k26, (fun_mk (st := s_law_number) l26 c26 k26).binds (fun _ _ _ _ _ _ us hl => match us, hl with | [_], _ => rfl)⟩
    x_lwhole := ⟨_, _, PySem.W.mg_of X G a27, fun_mk (st := s_law_whole) l27 c27 k27, (fun_mk (st := s_law_whole) l27 c27 k27).binds (fun _ _ _ _ _ _ us hl => match us, hl with | [_], _ => rfl)⟩
    x_bits := ⟨_, _, PySem.W.mg_of X G a28, fun_mk (st := s_law_bits) l28 c28 k28, (fun_mk (st := s_law_bits) l28 c28 k28).binds (fun _ _ _ _ _ _ us hl => match us, hl with | [_], _ => rfl)⟩
    x_number_of := ⟨_, _, PySem.W.mg_of X G a29, fun_mk (st := s_law_number_of) l29 c29 k29, (fun_mk (st := s_law_number_of) l29 c29 k29).binds (fun _ _ _ _ _ _ us hl => match us, hl with | [_], _ => rfl)⟩
    x_due := ⟨_, _, PySem.W.mg_of X G a30, fun_mk (st := s_law_due) l30 c30 k30, (fun_mk (st := s_law_due) l30 c30 k30).binds (fun _ _ _ _ _ _ us hl => match us, hl with | [_, _, _], _ => rfl)⟩
    x_said := ⟨_, _, PySem.W.mg_of X G a31, fun_mk (st := s_law_said) l31 c31 k31, (fun_mk (st := s_law_said) l31 c31 k31).binds (fun _ _ _ _ _ _ us hl => match us, hl with | [_], _ => rfl)⟩
    x_law := ⟨_, _, PySem.W.mg_of X G a32, fun_mk (st := s_law) l32 c32 k32, (fun_mk (st := s_law) l32 c32 k32).binds (fun _ _ _ _ _ _ us hl => match us, hl with | [_], _ => rfl)⟩
    g_Thrown := PySem.W.mg_of X G g_Thrown
    a_Thrown := ⟨th_made, th_over, th_hd, th_sa, th_ex, th_ty, th_kp⟩
    xf_Thrown := ⟨th_ga, th_gg, th_ex, th_hd⟩
    xn_value := xn_value
    xn_level := xn_level
    e_Thrown := exm_own th_ex th_ic th_ty th_sc
    b_AE := PySem.W.mg_none_of X G b_AE
    v_AE := v_AE
    x_pair := ⟨_, _, PySem.W.mg_of X G a98, fun_mk (st := s_law_pair_right) l98 c98 k98, (fun_mk (st := s_law_pair_right) l98 c98 k98).binds (fun _ _ _ _ _ _ us hl => match us, hl with | [_, _], _ => rfl), rfl⟩
    q_Float := ⟨ym_Float, ne_Float⟩
  }
  have tb98 : PySem.W.tabIn K "_law_pair_right" = some (CC, PT) := by
    unfold PySem.W.tabIn
    rw [a98]
    dsimp only
    rw [l98]
    dsimp only [PySem.W.fnOf]
    rw [lC98]
    dsimp only
    rw [v98]
  obtain ⟨cH, gP⟩ := tab _ _ tb98
  refine ⟨PySem.W.fnOf "law" "law" (defArgs s_law) (defBody s_law) (defScope s_law) .none kV32 dc32 pm32 an32 cd32 ct32, [(CC, PT)], spLaw K PT, fun p hp => by rw [List.mem_singleton.1 hp]; exact gP, fun p hp => by rw [List.mem_singleton.1 hp]; exact lk98, fun p hp => by rw [List.mem_singleton.1 hp]; exact cH, fun s v => .of_eq rfl, fun H a ns h1 h2 h3 h4 => ⟨a, ns, rfl, h4, h1, fun z hz => Int.ofNat_le.2 (h2 z hz), ?_, fun _ => rfl⟩, fun base _ _ htb => ok_all T (htb _ List.mem_cons_self) (thr_kn T ⟨⟨_, _, _, _, _, _, _, _, _, _, rfl, l99, c99, .inr ⟨by simp, TD, _, _, _, rfl, lD, rfl, .cons ⟨_, rfl⟩ .nil⟩, .inl rfl⟩, k99⟩ a99 i99) (fun_mk (st := s_law) l32 c32 k32)⟩
  intro p hp
  rw [List.mem_singleton.1 hp]
  exact LamX.TabS.nil (h3 _ List.mem_cons_self)
end Nu

open PySem PySem.W PyProof.Rows
set_option Elab.async false
set_option maxRecDepth 100000
set_option maxHeartbeats 0
open_top hd04 for PySem.Challenge.rw_walkmade_k04_bits_of_numbers
theorem PySem.Challenge.cw_walkmade_k04_bits_of_numbers_holds : PySem.Challenge.rw_walkmade_k04_bits_of_numbers.Holds :=
  hd04 (by
  k_fill
  refine Rd.walk_ofDef (l := PySem.Challenge.rw_walkmade_k04_bits_of_numbers) (n := 63) (k := 20) (x := "script") (CX := fun _ => L2.CX0) "_law_pair_right" rfl (by decide) rfl ⟨rfl, by decide, by decide⟩ (by decide +kernel) (fun w h Y => PySem.W.km_in_of Y) ?F (fun _ _ _ _ _ z => z)
  case F =>
    intro w mg fa h KX G hmg tab
    refine' Nu.fin_mk KX G hmg ?b_isinstance ?b_int ?b_str ?b_bool ?b_abs ?b_max ?b_min ?b_divmod ?b_len ?b_range ?b_list ?b_zip ?c_LEAST ?c_MOST ?c_ROOM ?c_LOWEST ?c_TOO_GREAT ?g_Float ?pg_Float ?hd_Float ?po_Float ?sa_Float ?yc_Float ?ym_Float ?n_sign ?n_top ?n_power ?i_Fint ?i_Fbool ?i_Fstr ?i_intF ?i_boolF ?i_strF ?i_nonF ?mk_Float ?kc_Float ?y_spec ?y_takes ?a1 ?l1 ?c1 ?k1 ?i1 ?a2 ?l2 ?c2 ?k2 ?i2 ?a3 ?l3 ?c3 ?k3 ?i3 ?a4 ?l4 ?c4 ?k4 ?i4 ?a5 ?l5 ?c5 ?k5 ?a6 ?l6 ?c6 ?k6 ?a7 ?l7 ?c7 ?k7 ?a8 ?l8 ?c8 ?k8 ?a9 ?l9 ?c9 ?k9 ?a10 ?l10 ?c10 ?k10 ?a11 ?l11 ?c11 ?k11 ?a12 ?l12 ?c12 ?k12 ?a13 ?l13 ?c13 ?k13 ?a14 ?l14 ?c14 ?k14 ?a15 ?l15 ?c15 ?k15 ?a16 ?l16 ?c16 ?k16 ?a17 ?l17 ?c17 ?k17 ?a18 ?l18 ?c18 ?k18 ?a19 ?l19 ?c19 ?k19 ?a20 ?l20 ?c20 ?k20 ?a21 ?l21 ?c21 ?k21 ?a22 ?l22 ?c22 ?k22 ?a23 ?l23 ?c23 ?k23 ?a24 ?l24 ?c24 ?k24 ?a25 ?l25 ?c25 ?k25 ?a26 ?l26 ?c26 ?k26 ?a27 ?l27 ?c27 ?k27 ?a28 ?l28 ?c28 ?k28 ?a29 ?l29 ?c29 ?k29 ?a30 ?l30 ?c30 ?k30 ?a31 ?l31 ?c31 ?k31 ?a32 ?l32 ?c32 ?k32 ?g_Thrown ?th_made ?th_over ?th_hd ?th_sa ?th_ex ?th_ty ?th_kp ?th_ga ?th_gg ?xn_value ?xn_level ?th_ic ?th_sc ?b_AE ?v_AE ?a99 ?l99 ?c99 ?k99 ?i99 ?lD ?a98 ?l98 ?c98 ?k98 ?lC98 ?v98 ?lk98 ?ne_Float tab
    (case b_isinstance => k_is)
    (case b_int => k_is)
    (case b_str => k_is)
    (case b_bool => k_is)
    (case b_abs => k_is)
    (case b_max => k_is)
    (case b_min => k_is)
    (case b_divmod => k_is)
    (case b_len => k_is)
    (case b_range => k_is)
    (case b_list => k_is)
    (case b_zip => k_is)
    (case c_LEAST => k_is)
    (case c_MOST => k_is)
    (case c_ROOM => k_is)
    (case c_LOWEST => k_is)
    (case c_TOO_GREAT => k_is)
    (case g_Float => k_is)
    (case pg_Float => k_is)
    (case hd_Float => k_is)
    (case po_Float => k_is)
    (case sa_Float => k_is)
    (case yc_Float => k_is)
    (case ym_Float => k_is)
    (case n_sign => k_is)
    (case n_top => k_is)
    (case n_power => k_is)
    (case i_Fint => kit_is)
    (case i_Fbool => kit_is)
    (case i_Fstr => kit_is)
    (case i_intF => kit_is)
    (case i_boolF => kit_is)
    (case i_strF => kit_is)
    (case i_nonF => kit_is)
    (case mk_Float => k_is)
    (case kc_Float => k_is)
    (case y_spec => k_is)
    (case y_takes => k_is)
    (case a1 => k_is)
    (case l1 => k_is)
    (case c1 => k_is)
    (case k1 => k_is)
    (case i1 => k_is)
    (case a2 => k_is)
    (case l2 => k_is)
    (case c2 => k_is)
    (case k2 => k_is)
    (case i2 => k_is)
    (case a3 => k_is)
    (case l3 => k_is)
    (case c3 => k_is)
    (case k3 => k_is)
    (case i3 => k_is)
    (case a4 => k_is)
    (case l4 => k_is)
    (case c4 => k_is)
    (case k4 => k_is)
    (case i4 => k_is)
    (case a5 => k_is)
    (case l5 => k_is)
    (case c5 => k_is)
    (case k5 => k_is)
    (case a6 => k_is)
    (case l6 => k_is)
    (case c6 => k_is)
    (case k6 => k_is)
    (case a7 => k_is)
    (case l7 => k_is)
    (case c7 => k_is)
    (case k7 => k_is)
    (case a8 => k_is)
    (case l8 => k_is)
    (case c8 => k_is)
    (case k8 => k_is)
    (case a9 => k_is)
    (case l9 => k_is)
    (case c9 => k_is)
    (case k9 => k_is)
    (case a10 => k_is)
    (case l10 => k_is)
    (case c10 => k_is)
    (case k10 => k_is)
    (case a11 => k_is)
    (case l11 => k_is)
    (case c11 => k_is)
    (case k11 => k_is)
    (case a12 => k_is)
    (case l12 => k_is)
    (case c12 => k_is)
    (case k12 => k_is)
    (case a13 => k_is)
    (case l13 => k_is)
    (case c13 => k_is)
    (case k13 => k_is)
    (case a14 => k_is)
    (case l14 => k_is)
    (case c14 => k_is)
    (case k14 => k_is)
    (case a15 => k_is)
    (case l15 => k_is)
    (case c15 => k_is)
    (case k15 => k_is)
    (case a16 => k_is)
    (case l16 => k_is)
    (case c16 => k_is)
    (case k16 => k_is)
    (case a17 => k_is)
    (case l17 => k_is)
    (case c17 => k_is)
    (case k17 => k_is)
    (case a18 => k_is)
    (case l18 => k_is)
    (case c18 => k_is)
    (case k18 => k_is)
    (case a19 => k_is)
    (case l19 => k_is)
    (case c19 => k_is)
    (case k19 => k_is)
    (case a20 => k_is)
    (case l20 => k_is)
    (case c20 => k_is)
    (case k20 => k_is)
    (case a21 => k_is)
    (case l21 => k_is)
    (case c21 => k_is)
    (case k21 => k_is)
    (case a22 => k_is)
    (case l22 => k_is)
    (case c22 => k_is)
    (case k22 => k_is)
    (case a23 => k_is)
    (case l23 => k_is)
    (case c23 => k_is)
    (case k23 => k_is)
    (case a24 => k_is)
    (case l24 => k_is)
    (case c24 => k_is)
    (case k24 => k_is)
    (case a25 => k_is)
    (case l25 => k_is)
    (case c25 => k_is)
    (case k25 => k_is)
    (case a26 => k_is)
    (case l26 => k_is)
    (case c26 => k_is)
    (case k26 => k_is)
    (case a27 => k_is)
    (case l27 => k_is)
    (case c27 => k_is)
    (case k27 => k_is)
    (case a28 => k_is)
    (case l28 => k_is)
    (case c28 => k_is)
    (case k28 => k_is)
    (case a29 => k_is)
    (case l29 => k_is)
    (case c29 => k_is)
    (case k29 => k_is)
    (case a30 => k_is)
    (case l30 => k_is)
    (case c30 => k_is)
    (case k30 => k_is)
    (case a31 => k_is)
    (case l31 => k_is)
    (case c31 => k_is)
    (case k31 => k_is)
    (case a32 => k_is)
    (case l32 => k_is)
    (case c32 => k_is)
    (case k32 => k_is)
    (case g_Thrown => k_is)
    (case th_made => kx_is)
    (case th_over => kx_is)
    (case th_hd => k_is)
    (case th_sa => k_is)
    (case th_ex => k_is)
    (case th_ty => k_is)
    (case th_kp => k_is)
    (case th_ga => k_is)
    (case th_gg => k_is)
    (case xn_value => k_is)
    (case xn_level => k_is)
    (case th_ic => k_is)
    (case th_sc => first | rfl | k_is)
    (case b_AE => k_is)
    (case v_AE => k_is)
    (case a99 => k_is)
    (case l99 => k_is)
    (case c99 => k_is)
    (case k99 => k_is)
    (case i99 => k_is)
    (case lD => k_is)
    (case a98 => k_is)
    (case l98 => k_is)
    (case c98 => k_is)
    (case k98 => k_is)
    (case lC98 => k_is)
    (case v98 => rfl)
    (case lk98 => first | k_is | kernel_rfl | rfl)
    (case ne_Float => k_is)
  )
